import PyProof.Rows.All
import Wide.All
import OpenK.AllK
import Wide.FinOn
import KE.KStateDown
import HandS.ForMost
import HandS.Wide
import HandS.WideBits
import HandS.ForExc
import HandS.Defaults
import HandS.HeadEnd
import PyProof.ReprRoads
import HandS.TupAny
import HandS.Star
import HandS.Lambda
import HandS.Nested
import HandS.HeadHook4
import HandS.TupMul
import PyProof.LongRange
import HandS.Style
import HandS.NoneIn
import HandS.IsInst
import HandS.Head0
import HandS.Head1
import HandS.Head2
import HandS.HeadHook1
import HandS.HeadHook2
import HandS.Dict
import PyProof.P3In
import PyProof.StrLawsRepr
import PyProof.RulesMatch
import KE.BitLaws
import HandS.Iter
import HandS.Conv
import PyProof.Rows.StrDigits
import HandS.StrMore
import KE.GoesMore
import HandS.SetFor
import HandS.Strs
import PyProof.Rows.SortShellAny
import HandS.Replace
import HandS.IntHex
import KE.KIntText
import KE.KLam
import KE.KExcSuper
import KE.KExcInit
import HandS.ExcSuper
import HandS.ExcField
import HandS.ExcIs
import HandS.ExcInit
import PyProof.InstEq
import PyProof.Rows.StrInSeq
import HandS.OwnEq
import HandS.Spec
import PySem.Challenge.RW_numbertexts_k41_whole_guarded_runs

set_option Elab.async false
set_option linter.all false
set_option maxRecDepth 100000

/-! Mn0: defs whose callers are known to be inside no repr. -/
namespace Mn
open PySem PySem.Spec PyProof.Rows L2
/-- room, and no repr under way -/
structure RG (k : Nat) (A : Around) : Prop where
  r : Room k A
  g : A.guards = some []
theorem RG.mono {j k : Nat} {A : Around} (x : RG k A) (h : j ≤ k) : RG j A := ⟨x.r.mono h, x.g⟩
theorem RG.deeper {k : Nat} {A : Around} (x : RG (k + 1) A) (env : Env) : RG k (A.deeper env) := ⟨x.r.deeper env, x.g⟩
theorem RG.units {k : Nat} {A : Around} (x : RG k A) : A.units + 64 < cLine := x.r.units
/-- a def's promise to such callers -/
structure FnG (P : Program) (w : World) (K : PySem.W.Frag) (mg : Str → Option Value) (base : Heap) (C : CXT) (k : Nat) (f : Addr) (fd : FuncData) (ps : List Str) (sp : Sp) : Prop where
  len : ∀ vs H Q E, sp vs H Q E → vs.length = ps.length
  run : ∀ (A : Around) (outer : List Env) (s : Shared) (H : Hp) (args : Args) (us : List Value) (vs : List V) (Q : VK) (E : XK), RG k A → Env0 P w K mg base A outer s H → BindsTo s fd args (ps.zip us) → Vals vs us → sp vs H Q E →
    codeAny (model P w) A (.call (.ref f) args) (CR C outer P w H s Q E) s
theorem FnG.mono {P : Program} {w : World} {K : PySem.W.Frag} {mg : Str → Option Value} {base : Heap} {C : CXT} {j k : Nat} {f : Addr} {fd : FuncData} {ps : List Str} {sp : Sp} (F : FnG P w K mg base C j f fd ps sp) (h : j ≤ k) : FnG P w K mg base C k f fd ps sp :=
  ⟨F.len, fun A outer s H args us vs Q E hr => F.run A outer s H args us vs Q E (hr.mono h)⟩
section
variable {X : Cx} {C : CXT} {k : Nat} {f : Addr} {fd : FuncData} {ps : List Str} {sp : Sp} {dvs : List V} {ds : List Value} {E : XK} {x : Str} {p pos : Pos} {e : Expr} {es : List Expr} {t : L2.TA}
theorem runG {pins : List (Addr × Obj)} {σ : L2.St} {H : Hp} {s : Shared} {Q : VK} {us : List Value} {vs : List V} (F : FnG X.prog X.w X.K X.mg X.base C k f fd ps sp) (g : RG k X.A) (hb : Binds X.K fd ps ds) (hd : Vals dvs ds) (hx : Passes C X E) (I : Inv X pins σ H s)
    (r : Vals vs us) (h : sp (vs ++ dvs) H Q E) : wpAny (model X.prog X.w) X.A (call (.ref f) us) (EP X pins σ Q) X.xe s :=
  have r2 : Vals (vs ++ dvs) (us ++ ds) := r.append hd
  wpAny_call (codeAny_mono (F.run X.A X.stack s H ⟨us, []⟩ (us ++ ds) (vs ++ dvs) Q E g I.env0 (hb s us I.kIn (by rw [← r2.length]; exact F.len _ _ _ _ h)) r2 h) fun z s' hq => match z, hq with
    | .error e, hq => hx pins σ H s e s' I hq
    | .ok (.ret u), hq => I.after hq
    | .ok .next, hq => False.elim hq
    | .ok .brk, hq => False.elim hq
    | .ok .cont, hq => False.elim hq)
theorem pe_callG (F : FnG X.prog X.w X.K X.mg X.base C k f fd ps sp) (g : RG k X.A) (hg : Gl X x) (hm : X.mg x = some (.ref f)) (hk : PySem.W.keepIn X.K (.ref f) = true) (hb : Binds X.K fd ps ds) (hd : Vals dvs ds) (hx : Passes C X E) (ha : PA X (e :: es) t)
    (hdb : (x == ("__debug__" : Str)) = false) (he : starEach (e :: es) X.env = (false, eval e X.env) :: starEach es X.env) (hpl : (backTo pos (starEach es X.env)).any (·.1) = false) : PE X (.Call (.Name x p) (e :: es) [] pos) (tCall sp dvs E t) :=
  ⟨fun pins s σ H Q I h => wpAny_Call_Name_kw (ld_glob I hg hm (PySem.W.callWith_K (h₀ := X.base) I.ok.mod.kin hk (thn (ha.run pos pins s σ H _ I h) fun us s1 ⟨vs, H1, I1, r, q⟩ => ⟨I1.kIn, runG F g hb hd hx I1 r q⟩) he hpl) hdb)⟩
theorem pe_callG0 (F : FnG X.prog X.w X.K X.mg X.base C k f fd ps sp) (g : RG k X.A) (hg : Gl X x) (hm : X.mg x = some (.ref f)) (hk : PySem.W.keepIn X.K (.ref f) = true) (hb : Binds X.K fd ps ds) (hd : Vals dvs ds) (hx : Passes C X E)
    (hdb : (x == ("__debug__" : Str)) = false) : PE X (.Call (.Name x p) [] [] pos) (tCall sp dvs E tNil) :=
  ⟨fun pins s σ H Q I h => wpAny_Call_Name_kw (ld_glob I hg hm (PySem.W.callWith_K0 I.kIn hk (runG (us := []) F g hb hd hx I .nil h)) hdb)⟩
end
/-- the rule of a def -/
theorem fnG_of {C : CXT} {P : Program} {w : World} {K : PySem.W.Frag} {mg : Str → Option Value} {base : Heap} {k : Nat} {f : Addr} {name qual : Str} {params : Arguments} {body : List Stmt} {scope : Scope} {dV kV doc pm cdv ct oc : Value} {an od : Option Addr} {osl : Array (Option Value)} {N ps : List Str} {sp : Sp}
    (lk : K.lookup f = some ⟨oc, od, .func (PySem.W.fnOf name qual params body scope dV kV doc pm an cdv ct), osl⟩) (hcd : PySem.W.codeIn K cdv qual = true) (S : FnScope N ps scope) (hlen : ∀ vs H Q E, sp vs H Q E → vs.length = ps.length)
    (hb : ∀ (A : Around) (outer : List Env) (s : Shared) (H : Hp) (vs : List V) (Q : VK) (E : XK), RG k (A.deeper (envOfC qual scope s.heap.objs.size f cdv)) → sp vs H Q E →
      ∃ t, PSs (cxOf C P w K mg base N qual scope f cdv A outer s H E) body t ∧ t { nx := fun _ H' => Q .non H', rt := Q } (start N vs) H) : FnG P w K mg base C (k + 1) f (PySem.W.fnOf name qual params body scope dV kV doc pm an cdv ct) ps sp := by
  refine ⟨hlen, fun A outer s H args us vs Q E g e0 bd rv hsp => ?_⟩
  have kept : ∀ {b : Addr} {o : Obj}, base.get? b = some o → s.heap.get? b = some o := fun e => (e0.bs _ _ e).1
  have Kin : K.In s.heap := e0.mod.kin.keeps fun b o e => kept e
  refine codeAny_call_function g.r.depth (Kin _ _ lk) rfl S.co S.gen rfl (PySem.W.codeRec_of Kin hcd) (bd _ _ _ _ (wpAny_newFunctionEnv_cells S.kind (fun ⟨n, v⟩ hy => ?_) fun env he s1 x => ?_))
  · exact (S.par n (List.of_mem_zip hy).1).imp id fun q => ⟨q, PySem.W.cellsFrom_some _ _ _ (.inl q)⟩
  · cases he
    obtain ⟨t, pt, ht⟩ := hb A outer s H vs Q E (g.deeper _) hsp
    have I0 := inv_start (CX := C) (qual := qual) (f := f) (cd := cdv) (E := E) S g.r.hd e0 (hlen _ _ _ _ hsp) rv x
    refine ⟨(e0.mod.nolimit.keeps fun b o e => kept e).keeps x.toInCall.keep, codeAny_func (wpAny_mono (pt.run [] s1 (start N vs) H _ I0 ht) (fun fl z hz => ?_) fun e z hz => hz)⟩
    match fl, hz with
    | .ret u, ⟨v, σ', H', J, rv', q⟩ => exact ⟨v, H', J.os, J.bare, J.base, J.hok, rv', q⟩
    | .next, ⟨σ', H', J, q⟩ => exact ⟨V.non, H', J.os, J.bare, J.base, J.hok, rfl, q⟩
    | .brk, ⟨_, _, _, q⟩ => exact False.elim q
    | .cont, ⟨_, _, _, q⟩ => exact False.elim q
theorem callerG {k : Nat} (h : Room k callerA) : RG k callerA := ⟨h, rfl⟩
/-! ### a law's call -/
section
variable {P : Program} {w : World} {K : PySem.W.Frag} {mg mb : Str → Option Value} {C : CXT} {k : Nat} {fa a : Addr} {fd : FuncData} {x : Str} {sp : Sp} {s : Shared} {vs : List Value} {ns : List Int}
theorem law_from (KX : K.In s.heap) (hns : s.heap.Ns mainGlobals mg) (hb : s.heap.Ns builtinsNs mb) (hbb : ∀ x : Str, x ≠ "__name__" → mb x = bootBuiltins x) (hlim : s.heap.NoLimit) (hg : s.gens = #[]) (ha : s.heap.get? a = some { cls := .type "list", data := .seq vs.toArray }) (hr : Room k callerA)
    (F : ∀ base : Heap, K.In base → base.Ns mainGlobals mg → FnG P w K mg base C k fa fd [x] sp) (hbind : ∀ (s : Shared) (u : Value), BindsTo s fd ⟨[u], []⟩ [(x, u)]) (hsp : ∀ H : Hp, Only H → SqL K H a (ns.map V.int) → sp [.ref a] H (fun v _ => v = .bl true) fun _ _ _ => False) (hCX : ∀ H e s', C [] H s (fun _ _ _ => False) e s' → False)
    (H : Hp) (hO : Only H) (hS : SqL K H a (ns.map V.int)) (hok : HOk P w H s.heap) (hA : ∀ b, H b ≠ none → b = a) (hK : H a ≠ none → K.lookup a = none) :
    codeAny (model P w) callerA (.call (.ref fa) ⟨[.ref a], []⟩) (fun r z => r = .ok (.ret (.bool true)) ∧ OldK s.heap z.heap ∧ z.os = s.os ∧ AllBare z.gens) s := by
  have hid : ∀ {b : Addr} {o : Obj}, s.heap.get? b = some o → H b = none → (hidT s.heap H).get? b = some o := fun e n => hidT_get e n
  have is_a : ∀ {b : Addr} {u : HO}, H b = some u → b = a := fun {b u} q => hA b fun z => by rw [q] at z; cases z
  have noDict : ∀ {b : Addr} {o : Obj} {es : Array DictEntry} {ep : Nat}, s.heap.get? b = some o → o.data = .dict es ep → H b = none := fun {b o es ep} e d => by
    cases q : H b with
    | none => rfl
    | some u =>
      cases is_a q
      rw [ha] at e; cases e
      have d2 : Data.seq vs.toArray _ = Data.dict es ep := d
      cases d2
  have ns2 : ∀ {b : Addr} {m : Str → Option Value}, s.heap.Ns b m → (hidT s.heap H).Ns b m := fun ⟨o, es, ep, e, d, r⟩ => ⟨o, es, ep, hid e (noDict e d), d, r⟩
  have Kin : K.In (hidT s.heap H) := fun b o e => hid (KX b o e) (by
    cases q : H b with
    | none => rfl
    | some u =>
      cases is_a q
      rw [hK (fun z => by rw [q] at z; cases z)] at e; cases e)
  have M : Mod K mg (hidT s.heap H) := ⟨Kin, ns2 hns, ⟨mb, ns2 hb, hbb⟩, hlim.imp fun mc h => ⟨ns2 h.1, h.2⟩⟩
  have e0 : Env0 P w K mg (hidT s.heap H) callerA [] s H := ⟨rfl, M, fun b o e => of_hidT e, Nat.le_of_eq (hidT_size _ _), trivial, fun b z => (List.not_mem_nil (show b ∈ ([] : List Addr) from z)).elim, hok, .of_eq hg⟩
  refine codeAny_mono ((F _ Kin (ns2 hns)).run callerA [] s H ⟨[.ref a], []⟩ [.ref a] [.ref a] _ _ (callerG hr) e0 (hbind s (.ref a)) (.cons rfl .nil) (hsp H hO hS)) fun r z h => ?_
  match r, h with
  | .error e, h => exact (hCX H e z h).elim
  | .ok .next, h => exact False.elim h
  | .ok .brk, h => exact False.elim h
  | .ok .cont, h => exact False.elim h
  | .ok (.ret u), ⟨v, H', os, bare, un, hok2, rel, q⟩ =>
    have qv : v = .bl true := q
    subst qv
    cases (show u = Value.bool true from rel)
    refine ⟨rfl, OldK.of_keep fun b o e => ?_, os, bare⟩
    rcases hO b with q | ⟨ob, xs, q⟩
    · exact un.keep b o e q (fun z => List.not_mem_nil (show b ∈ ([] : List Addr) from z)) (fun z => List.not_mem_nil z)
    · obtain ⟨e1, _⟩ := hok b _ q
      rw [e] at e1
      cases e1
      exact (hok2 b _ (un.frzs b _ _ q)).1
theorem lawG (KX : K.In s.heap) (hns : s.heap.Ns mainGlobals mg) (hb : s.heap.Ns builtinsNs mb) (hbb : ∀ x : Str, x ≠ "__name__" → mb x = bootBuiltins x) (hlim : s.heap.NoLimit) (hg : s.gens = #[]) (ha : s.heap.get? a = some { cls := .type "list", data := .seq vs.toArray })
    (hi : IntsAre vs ns) (hl : ns.length ≤ sizeLine) (hr : Room k callerA) (F : ∀ base : Heap, K.In base → base.Ns mainGlobals mg → FnG P w K mg base C k fa fd [x] sp) (hbind : ∀ (s : Shared) (u : Value), BindsTo s fd ⟨[u], []⟩ [(x, u)])
    (hsp : ∀ H : Hp, Only H → SqL K H a (ns.map V.int) → sp [.ref a] H (fun v _ => v = .bl true) fun _ _ _ => False) (hCX : ∀ H e s', C [] H s (fun _ _ _ => False) e s' → False) :
    codeAny (model P w) callerA (.call (.ref fa) ⟨[.ref a], []⟩) (fun r z => r = .ok (.ret (.bool true)) ∧ OldK s.heap z.heap ∧ z.os = s.os ∧ AllBare z.gens) s := by
  have rv := vals_ints hi
  cases hk : K.lookup a with
  | some o =>
    have e := KX a o hk
    rw [ha] at e; cases e
    exact law_from KX hns hb hbb hlim hg ha hr F hbind hsp hCX (fun _ => none) (fun _ => .inl rfl) (.inr ⟨_, vs.toArray, _, hk, rfl, rfl, rfl, by rw [List.size_toArray, hi.length]; exact hl, by simpa using rv⟩) (fun b u z => nomatch (show (none : Option HO) = some u from z)) (fun b z => (z rfl).elim) fun z => (z rfl).elim
  | none =>
    let H : Hp := fun b => if b = a then some (.frz { cls := .type "list", data := .seq vs.toArray } (.lst (ns.map V.int))) else none
    have Ha : H a = some (.frz { cls := .type "list", data := .seq vs.toArray } (.lst (ns.map V.int))) := if_pos rfl
    have Hn : ∀ b, b ≠ a → H b = none := fun b n => if_neg n
    refine law_from KX hns hb hbb hlim hg ha hr F hbind hsp hCX H (fun b => ?_) (.inl (.inr ⟨_, Ha⟩)) (fun b u z => ?_) (fun b z => ?_) fun _ => hk
    · exact if h : b = a then .inr (by rw [h]; exact ⟨_, _, Ha⟩) else .inl (Hn b h)
    · by_cases h : b = a
      · subst h
        rw [Ha] at z; cases z
        exact ⟨ha, by rw [List.length_map]; exact hl, vs, _, rv, ha⟩
      · rw [Hn b h] at z; cases z
    · exact Classical.byContradiction fun h => z (Hn b h)
end
theorem walkG {l : PySem.W.OpenLaw} {n k : Nat} {q : Program} {loose : List Str} {XP : (Str → Option Value) → Heap → Prop} {YP : World → Heap → Prop} {d : DefRec} {C : CXT} {x : Str} (hn : l.most = some n) (hn2 : n ≤ sizeLine) (hdf : d.params.defaults = []) (hr : Room k callerA)
    (F : ∀ (w : World) (mg : Str → Option Value) (fa : Addr) (h : Heap), YP w h → h.Ns mainGlobals mg → mg d.name = some (.ref fa) → ∃ (K : PySem.W.Frag) (fd : FuncData) (sp : Sp), K.In h ∧ (∀ (s : Shared) (u : Value), BindsTo s fd ⟨[u], []⟩ [(x, u)]) ∧
      (∀ (H : Hp) (a : Addr) (ns : List Int), ns.length ≤ n → Only H → SqL K H a (ns.map V.int) → sp [.ref a] H (fun v _ => v = .bl true) fun _ _ _ => False) ∧ ∀ base : Heap, K.In base → base.Ns mainGlobals mg → FnG l.prog w K mg base C k fa fd [x] sp)
    (hC : ∀ (H : Hp) (s : Shared) (e : Value) (s' : Shared), C [] H s (fun _ _ _ => False) e s' → False) : PySem.W.WalkO q loose XP YP l.row.toRowW d [] (fun f vs => PySem.call f vs) :=
  Att.attach_call hn hdf fun w s₀ s₁ mg mb fa o pm cd doc a vs ns G Y ho hd hcd hmg hobj hints hlen hg => by
    obtain ⟨K, fd, sp, KX, hb, hsp, hF⟩ := F w mg fa _ Y G.T.g hmg
    exact lawG KX G.T.g G.T.b G.T.builtins G.T.nolimit hg hobj hints (Nat.le_trans hlen hn2) hr hF hb (fun H hO hS => hsp H a ns hlen hO hS) fun H e z => hC H s₁ e z
end Mn

/-! Mn: clean data over the hand layer. -/
namespace Mn
open PySem PySem.Spec PyProof.Rows L2

/-- what is there, and then F -/
@[irreducible] def oth {α : Type} (o : Option α) (F : α → Prop) : Prop := match o with | some x => F x | none => False
theorem oth_some {α : Type} {o : Option α} {x : α} {F : α → Prop} (h : o = some x) (q : F x) : oth o F := by
  unfold oth
  subst h
  exact q
theorem oth_of {α : Type} {o : Option α} {F : α → Prop} (h : oth o F) : ∃ x, o = some x ∧ F x := by
  unfold oth at h
  cases o with
  | none => exact h.elim
  | some x => exact ⟨x, rfl, h⟩
/-- clean data: immutable things are values; ref: a mutable list -/
inductive D where
  | non | bl (b : Bool) | int (i : Int) | str (s : Str) | tup (xs : List D) | lst (xs : List D) | ref (a : Addr) | dct (ks : List Key) (vs : List D) | frz (xs : List D) | clo (f : Addr) (ws : List V) (xs : List D) | exn (a : Addr) (dx : Option Addr) (ns : List Str) (xs : List D) | fn (x : Str)
abbrev Ms := Addr → Prop
abbrev CH := Addr → Option (List D)
/-- a list that the law was handed -/
def FrzL (K : PySem.W.Frag) (H : Hp) (a : Addr) (xs : List V) : Prop := (∃ o, H a = some (.frz o (.lst xs))) ∨
  ∃ (o : Obj) (its : Array Value) (n : Nat), K.lookup a = some o ∧ o.cls = .type "list" ∧ o.dict = none ∧ o.data = .seq its n ∧ its.size ≤ sizeLine ∧ Vals xs its.toList
theorem FrzL.sq {K : PySem.W.Frag} {H : Hp} {a : Addr} {xs : List V} (h : FrzL K H a xs) : SqL K H a xs := by
  rcases h with ⟨o, h⟩ | h
  · exact .inl (.inr ⟨o, h⟩)
  · exact .inr h
/-- a function object: a frozen one whose code object is known, or one of the written part -/
def FnVal (K : PySem.W.Frag) (H : Hp) (f : Addr) : Prop := (∃ o fd c, H f = some (.frz o (.own f)) ∧ o.data = .func fd ∧ fd.code = .ref c ∧ H c = some (LamX.CodeO c fd.qualname)) ∨ K.lookup f ≠ none
/-- the fields of a caught exception -/
def XFs (H : Hp) (dx : Option Addr) (ns : List Str) (vs : List V) : Prop := (dx = none ∧ ns = [] ∧ vs = []) ∨ ∃ p fs, dx = some p ∧ H p = some (.xd fs) ∧ fs.map (·.1) = ns ∧ fs.map (·.2) = vs
mutual
def Rep (K : PySem.W.Frag) (H : Hp) (m : Ms) : D → V → Prop
  | .non, v => v = .non
  | .bl b, v => v = .bl b
  | .int i, v => v = .int i
  | .str s, v => v = .str s
  | .tup xs, v => ∃ p vs, v = .ref p ∧ SqT K H p vs ∧ RepL K H m xs vs
  | .lst xs, v => ∃ p vs, v = .ref p ∧ ¬ m p ∧ H p = some (.lst vs) ∧ RepL K H m xs vs
  | .ref a, v => v = .ref a
  | .dct ks ds, v => ∃ p vs, v = .ref p ∧ ¬ m p ∧ H p = some (.dK (ks.zip vs)) ∧ ks.length = vs.length ∧ RepL K H m ds vs
  | .frz xs, v => ∃ p vs, v = .ref p ∧ FrzL K H p vs ∧ RepL K H m xs vs
  | .clo f ws xs, v => v = .ref f ∧ FnVal K H f ∧ RepL K H m xs ws
  | .exn a dx ns xs, v => v = .ref a ∧ ∃ vs, XFs H dx ns vs ∧ RepL K H m xs vs
  | .fn x, v => v = .ref (He.ga K x)
def RepL (K : PySem.W.Frag) (H : Hp) (m : Ms) : List D → List V → Prop
  | [], vs => vs = []
  | d :: ds, vs => ∃ v r, vs = v :: r ∧ Rep K H m d v ∧ RepL K H m ds r
end
/-- no table of code objects -/
def NT : HO → Prop
  | .tbl _ => False
  | _ => True
theorem nt_of {o : HO} (h : ∀ ps, o ≠ .tbl ps) : NT o := by cases o <;> first | trivial | exact (h _ rfl).elim
theorem nt_ne {o : HO} (h : NT o) : ∀ ps, o ≠ .tbl ps := fun ps z => by subst z; exact h
/-- one step of the world, as far as values see it -/
structure Stp (H : Hp) (m : Ms) (H' : Hp) (m' : Ms) : Prop where
  keep : ∀ p o, H p = some o → NT o → ¬ m p → H' p = some o
  grow : ∀ p, m' p → m p ∨ H p = none
  live : ∀ p o, H p = some o → H' p ≠ none
theorem Stp.refl {H : Hp} {m : Ms} : Stp H m H m := ⟨fun _ _ h _ _ => h, fun _ h => .inl h, fun p o h => by rw [h]; simp⟩
theorem Stp.trans {H H1 H2 : Hp} {m m1 m2 : Ms} (a : Stp H m H1 m1) (b : Stp H1 m1 H2 m2) : Stp H m H2 m2 := by
  refine ⟨fun p o h t n => ?_, fun p h => ?_, fun p o h => ?_⟩
  · refine b.keep p o (a.keep p o h t n) t fun z => ?_
    rcases a.grow p z with y | y
    · exact n y
    · rw [h] at y; cases y
  · rcases b.grow p h with y | y
    · exact a.grow p y
    · by_cases hm : m p
      · exact .inl hm
      · cases e : H p with
        | none => exact .inr rfl
        | some o => exact absurd y (a.live p o e)
  · cases e : H1 p with
    | none => exact absurd e (a.live p o h)
    | some u => exact b.live p u e
/-- mutable things are tracked lists -/
def MutOk (H : Hp) (m : Ms) : Prop := ∀ a, m a → ∃ vs, H a = some (.lst vs)
theorem sqt_step {K : PySem.W.Frag} {H H' : Hp} {m m' : Ms} {p : Addr} {vs : List V} (mo : MutOk H m) (s : Stp H m H' m') (h : SqT K H p vs) : SqT K H' p vs := by
  rcases h with (h | ⟨o, h⟩) | h
  · exact .inl (.inl (s.keep _ _ h trivial fun z => by obtain ⟨w, e⟩ := mo _ z; rw [h] at e; cases e))
  · exact .inl (.inr ⟨o, s.keep _ _ h trivial fun z => by obtain ⟨w, e⟩ := mo _ z; rw [h] at e; cases e⟩)
  · exact .inr h
theorem ls_step {H H' : Hp} {m m' : Ms} {p : Addr} {u : HO} (s : Stp H m H' m') (n : ¬ m p) (h : H p = some u) (t : NT u := by trivial) : H' p = some u ∧ ¬ m' p := by
  refine ⟨s.keep _ _ h t n, fun z => ?_⟩
  rcases s.grow p z with y | y
  · exact n y
  · rw [h] at y; cases y
theorem FnVal.mono {K : PySem.W.Frag} {H H' : Hp} {m m' : Ms} {f : Addr} (mo : MutOk H m) (s : Stp H m H' m') (h : FnVal K H f) : FnVal K H' f := by
  rcases h with ⟨o, fd, c, e1, e2, e3, e4⟩ | h
  · refine .inl ⟨o, fd, c, s.keep _ _ e1 trivial fun z => ?_, e2, e3, s.keep _ _ e4 (nt_of fun ps z => by unfold LamX.CodeO at z; cases z) fun z => ?_⟩
    · obtain ⟨w, e⟩ := mo _ z
      rw [e1] at e; cases e
    · obtain ⟨w, e⟩ := mo _ z
      rw [e4] at e
      unfold LamX.CodeO at e
      cases e
  · exact .inr h
theorem XFs.mono {H H' : Hp} {m m' : Ms} {dx : Option Addr} {ns : List Str} {vs : List V} (mo : MutOk H m) (s : Stp H m H' m') (h : XFs H dx ns vs) : XFs H' dx ns vs := by
  rcases h with h | ⟨p, fs, e1, e2, e3⟩
  · exact .inl h
  · refine .inr ⟨p, fs, e1, s.keep _ _ e2 trivial fun z => ?_, e3⟩
    obtain ⟨w, e⟩ := mo _ z
    rw [e2] at e; cases e
mutual
theorem Rep.mono {K : PySem.W.Frag} {H H' : Hp} {m m' : Ms} (mo : MutOk H m) (s : Stp H m H' m') : ∀ (d : D) (v : V), Rep K H m d v → Rep K H' m' d v
  | .non, v, h => by unfold Rep at h ⊢; exact h
  | .bl _, v, h => by unfold Rep at h ⊢; exact h
  | .int _, v, h => by unfold Rep at h ⊢; exact h
  | .str _, v, h => by unfold Rep at h ⊢; exact h
  | .tup xs, v, h => by
    unfold Rep at h ⊢
    obtain ⟨p, vs, e, q, r⟩ := h
    exact ⟨p, vs, e, sqt_step mo s q, RepL.mono mo s xs vs r⟩
  | .lst xs, v, h => by
    unfold Rep at h ⊢
    obtain ⟨p, vs, e, n, q, r⟩ := h
    obtain ⟨q', n'⟩ := ls_step s n q
    exact ⟨p, vs, e, n', q', RepL.mono mo s xs vs r⟩
  | .ref _, v, h => by unfold Rep at h ⊢; exact h
  | .dct ks ds, v, h => by
    unfold Rep at h ⊢
    obtain ⟨p, vs, e, n, q, l, r⟩ := h
    refine ⟨p, vs, e, fun z => ?_, s.keep _ _ q trivial n, l, RepL.mono mo s ds vs r⟩
    rcases s.grow p z with y | y
    · exact n y
    · rw [q] at y; cases y
  | .frz xs, v, h => by
    unfold Rep at h ⊢
    obtain ⟨p, vs, e, q, r⟩ := h
    refine ⟨p, vs, e, ?_, RepL.mono mo s xs vs r⟩
    rcases q with ⟨o, q⟩ | q
    · exact .inl ⟨o, s.keep _ _ q trivial fun z => by obtain ⟨w, e⟩ := mo _ z; rw [q] at e; cases e⟩
    · exact .inr q
  | .clo f ws xs, v, h => by
    unfold Rep at h ⊢
    exact ⟨h.1, h.2.1.mono mo s, RepL.mono mo s xs ws h.2.2⟩
  | .exn a dx ns xs, v, h => by
    unfold Rep at h ⊢
    obtain ⟨e, vs, q, r⟩ := h
    exact ⟨e, vs, q.mono mo s, RepL.mono mo s xs vs r⟩
  | .fn _, v, h => by unfold Rep at h ⊢; exact h
theorem RepL.mono {K : PySem.W.Frag} {H H' : Hp} {m m' : Ms} (mo : MutOk H m) (s : Stp H m H' m') : ∀ (ds : List D) (vs : List V), RepL K H m ds vs → RepL K H' m' ds vs
  | [], vs, h => by unfold RepL at h ⊢; exact h
  | d :: ds, vs, h => by
    unfold RepL at h ⊢
    obtain ⟨v, r, e, h1, h2⟩ := h
    exact ⟨v, r, e, Rep.mono mo s d v h1, RepL.mono mo s ds r h2⟩
end
theorem RepL.length {K : PySem.W.Frag} {H : Hp} {m : Ms} : ∀ {ds : List D} {vs : List V}, RepL K H m ds vs → ds.length = vs.length
  | [], vs, h => by unfold RepL at h; subst h; rfl
  | d :: ds, vs, h => by
    unfold RepL at h
    obtain ⟨v, r, e, _, h2⟩ := h
    subst e
    rw [List.length_cons, List.length_cons, RepL.length h2]
theorem RepL.get {K : PySem.W.Frag} {H : Hp} {m : Ms} : ∀ {ds : List D} {vs : List V} {i : Nat} {d : D}, RepL K H m ds vs → ds[i]? = some d → ∃ v, vs[i]? = some v ∧ Rep K H m d v
  | [], vs, i, d, h, e => by simp at e
  | d :: ds, vs, 0, d', h, e => by
    unfold RepL at h
    obtain ⟨v, r, rfl, h1, _⟩ := h
    simp at e; subst e
    exact ⟨v, rfl, h1⟩
  | d :: ds, vs, i + 1, d', h, e => by
    unfold RepL at h
    obtain ⟨v, r, rfl, _, h2⟩ := h
    obtain ⟨w, e1, e2⟩ := RepL.get (i := i) h2 (by simpa using e)
    exact ⟨w, by simpa using e1, e2⟩
theorem RepL.append {K : PySem.W.Frag} {H : Hp} {m : Ms} : ∀ {ds es : List D} {vs ws : List V}, RepL K H m ds vs → RepL K H m es ws → RepL K H m (ds ++ es) (vs ++ ws)
  | [], es, vs, ws, h, g => by unfold RepL at h; subst h; exact g
  | d :: ds, es, vs, ws, h, g => by
    unfold RepL at h
    obtain ⟨v, r, rfl, h1, h2⟩ := h
    show RepL K H m (d :: (ds ++ es)) (v :: (r ++ ws))
    unfold RepL
    exact ⟨v, _, rfl, h1, RepL.append h2 g⟩
theorem RepL.one {K : PySem.W.Frag} {H : Hp} {m : Ms} {d : D} {v : V} (h : Rep K H m d v) : RepL K H m [d] [v] := by
  unfold RepL; exact ⟨v, [], rfl, h, by unfold RepL; rfl⟩
theorem RepL.set {K : PySem.W.Frag} {H : Hp} {m : Ms} {d : D} {v : V} (h : Rep K H m d v) : ∀ {ds : List D} {vs : List V} (i : Nat), RepL K H m ds vs → RepL K H m (ds.set i d) (vs.set i v)
  | [], vs, i, g => by unfold RepL at g; subst g; simpa using (show RepL K H m [] [] by unfold RepL; rfl)
  | d' :: ds, vs, 0, g => by
    unfold RepL at g
    obtain ⟨w, r, rfl, _, h2⟩ := g
    show RepL K H m (d :: ds) (v :: r)
    unfold RepL
    exact ⟨v, r, rfl, h, h2⟩
  | d' :: ds, vs, i + 1, g => by
    unfold RepL at g
    obtain ⟨w, r, rfl, h1, h2⟩ := g
    show RepL K H m (d' :: ds.set i d) (w :: r.set i v)
    unfold RepL
    exact ⟨w, _, rfl, h1, RepL.set h i h2⟩
theorem RepL.drop {K : PySem.W.Frag} {H : Hp} {m : Ms} : ∀ {ds : List D} {vs : List V} (n : Nat), RepL K H m ds vs → RepL K H m (ds.drop n) (vs.drop n)
  | ds, vs, 0, h => h
  | [], vs, n + 1, h => by unfold RepL at h; subst h; simpa using (show RepL K H m [] [] by unfold RepL; rfl)
  | d :: ds, vs, n + 1, h => by
    unfold RepL at h
    obtain ⟨v, r, rfl, _, h2⟩ := h
    exact RepL.drop n h2
theorem RepL.take {K : PySem.W.Frag} {H : Hp} {m : Ms} : ∀ {ds : List D} {vs : List V} (n : Nat), RepL K H m ds vs → RepL K H m (ds.take n) (vs.take n)
  | ds, vs, 0, h => by simpa using (show RepL K H m [] [] by unfold RepL; rfl)
  | [], vs, n + 1, h => by unfold RepL at h; subst h; simpa using (show RepL K H m [] [] by unfold RepL; rfl)
  | d :: ds, vs, n + 1, h => by
    unfold RepL at h
    obtain ⟨v, r, rfl, h1, h2⟩ := h
    show RepL K H m (d :: ds.take n) (v :: r.take n)
    unfold RepL
    exact ⟨v, _, rfl, h1, RepL.take n h2⟩
theorem RepL.reverse {K : PySem.W.Frag} {H : Hp} {m : Ms} : ∀ {ds : List D} {vs : List V}, RepL K H m ds vs → RepL K H m ds.reverse vs.reverse
  | [], vs, h => by unfold RepL at h; subst h; simpa using (show RepL K H m [] [] by unfold RepL; rfl)
  | d :: ds, vs, h => by
    unfold RepL at h
    obtain ⟨v, r, rfl, h1, h2⟩ := h
    rw [List.reverse_cons, List.reverse_cons]
    exact RepL.append (RepL.reverse h2) (RepL.one h1)
theorem RepL.nil {K : PySem.W.Frag} {H : Hp} {m : Ms} : RepL K H m [] [] := by unfold RepL; rfl
theorem RepL.cons {K : PySem.W.Frag} {H : Hp} {m : Ms} {d : D} {ds : List D} {v : V} {vs : List V} (h : Rep K H m d v) (g : RepL K H m ds vs) : RepL K H m (d :: ds) (v :: vs) := by unfold RepL; exact ⟨v, vs, rfl, h, g⟩

/-- the tables of the defs' code objects, with the name that their lambdas bear -/
def tabD (K : PySem.W.Frag) (q : Addr × Obj) : Option (Addr × Str) := match q.2.data with
  | .func fd => (match fd.code with
    | .ref c => if PySem.W.codeHdIn K c (He.tabOf K c) = true then some (He.tabOf K c, fd.qualname ++ ".<locals>." ++ "<lambda>") else none
    | _ => none)
  | _ => none
def tabsL (K : PySem.W.Frag) : List (Addr × Str) := K.filterMap (tabD K)
theorem tabs_put {T : List (Addr × Str)} {H : Hp} {a : Addr} {ws : List V} (t : LamX.Tabs T H) (h : H a = none ∨ ∃ vs, H a = some (.lst vs)) : LamX.Tabs T (upd H a (.lst ws)) := fun p hp => by
  obtain ⟨ps, h1, h2, h3⟩ := t p hp
  have ne : ∀ b o, H b = some o → (∀ vs, o ≠ .lst vs) → b ≠ a := fun b o e n z => by
    subst z
    rcases h with h | ⟨vs, h⟩
    · rw [e] at h; cases h
    · rw [e] at h; exact n vs (Option.some.inj h)
  refine ⟨ps, by rw [upd_ne (ne _ _ h1 fun vs z => by cases z)]; exact h1, h2, fun pos cv hc => ?_⟩
  obtain ⟨c, e1, e2⟩ := h3 pos cv hc
  exact ⟨c, e1, by rw [upd_ne (ne _ _ e2 fun vs z => by unfold LamX.CodeO at z; cases z)]; exact e2⟩
/-- the heap's part -/
structure Wd (K : PySem.W.Frag) (H : Hp) (hc : CH) (m : Ms) : Prop where
  tab : LamX.Tabs (tabsL K) H
  mu : MutOk H m
  hm : ∀ a ds, hc a = some ds → m a
  heap : ∀ a ds, hc a = some ds → ∃ vs, H a = some (.lst vs) ∧ RepL K H m ds vs
/-- a def's entry -/
structure En where
  H : Hp
  hc : CH
  m : Ms
/-- how the world lies to the entry -/
structure Ex (K : PySem.W.Frag) (en : En) (H : Hp) (hc : CH) (m : Ms) : Prop extends Wd K H hc m where
  emut : MutOk en.H en.m
  ehm : ∀ a ds, en.hc a = some ds → en.m a
  keep : ∀ p o, en.H p = some o → NT o → en.hc p = none → H p = some o
  grow : ∀ p, m p → en.m p ∨ en.H p = none
  hold : ∀ p, en.m p → en.hc p = none → m p
  hgrow : ∀ p ds, hc p = some ds → en.hc p ≠ none ∨ en.H p = none
  live : ∀ p o, en.H p = some o → H p ≠ none
theorem Ex.refl {K : PySem.W.Frag} {H : Hp} {hc : CH} {m : Ms} (w : Wd K H hc m) : Ex K ⟨H, hc, m⟩ H hc m :=
  ⟨w, w.mu, w.hm, fun _ _ h _ _ => h, fun _ h => .inl h, fun _ h _ => h, fun p ds h => .inl (by show hc p ≠ none; rw [h]; simp), fun p o h => by have h' : H p = some o := h; rw [h']; simp⟩
/-- a callee's world, seen from here -/
theorem Ex.trans {K : PySem.W.Frag} {en : En} {H H' : Hp} {hc hc' : CH} {m m' : Ms} (a : Ex K en H hc m) (b : Ex K ⟨H, hc, m⟩ H' hc' m') : Ex K en H' hc' m' := by
  have nh : ∀ p o, en.H p = some o → en.hc p = none → hc p = none := fun p o h n => by
    cases e : hc p with
    | none => rfl
    | some ds =>
      rcases a.hgrow p ds e with y | y
      · exact absurd n y
      · rw [h] at y; cases y
  refine ⟨b.toWd, a.emut, a.ehm, fun p o h t n => ?_, fun p h => ?_, fun p h n => ?_, fun p ds h => ?_, fun p o h => ?_⟩
  · exact b.keep p o (a.keep p o h t n) t (nh p o h n)
  · rcases b.grow p h with y | y
    · exact a.grow p y
    · cases e : en.H p with
      | none => exact .inr rfl
      | some o => exact absurd y (a.live p o e)
  · refine b.hold p (a.hold p h n) ?_
    obtain ⟨vs, e⟩ := a.emut p h
    exact nh p _ e n
  · rcases b.hgrow p ds h with y | y
    · cases e : hc p with
      | none => exact absurd e y
      | some ds' => exact a.hgrow p ds' e
    · cases e : en.H p with
      | none => exact .inr rfl
      | some o =>
        cases e2 : en.hc p with
        | none => exact absurd (show H p = none from y) (a.live p o e)
        | some ds => exact .inl (by simp)
  · cases e : H p with
    | none => exact absurd e (a.live p o h)
    | some u => exact b.live p u e
theorem Ex.stp {K : PySem.W.Frag} {en : En} {H : Hp} {hc : CH} {m : Ms} (a : Ex K en H hc m) : Stp en.H en.m H m := by
  refine ⟨fun p o h t n => a.keep p o h t ?_, a.grow, a.live⟩
  cases e : en.hc p with
  | none => rfl
  | some ds => exact absurd (a.ehm p ds e) n

/-- a slot: nothing known, a value, a list that this slot alone holds -/
inductive Sl where
  | un | val (d : D) | own (ds : List D)
/-- the state of a def's body -/
structure Rs (K : PySem.W.Frag) (en : En) (σ : L2.St) (H : Hp) (sc : List Sl) (hc : CH) (m : Ms) : Prop extends Ex K en H hc m where
  slot : ∀ (i : Nat) (d : D), sc[i]? = some (Sl.val d) → ∃ v, σ[i]? = some (some v) ∧ Rep K H m d v
  own : ∀ (i : Nat) (ds : List D), sc[i]? = some (Sl.own ds) → ∃ (p : Addr) (vs : List V), σ[i]? = some (some (V.ref p)) ∧ m p ∧ en.H p = none ∧ hc p = none ∧ H p = some (.lst vs) ∧ RepL K H m ds vs
  sep : ∀ (i j : Nat) (ds es : List D) (p : Addr), sc[i]? = some (Sl.own ds) → sc[j]? = some (Sl.own es) → σ[i]? = some (some (V.ref p)) → σ[j]? = some (some (V.ref p)) → i = j
  len : sc.length = σ.length
end Mn

namespace Mn
open PySem PySem.Spec PyProof.Rows L2

/-! ### steps of the state -/
theorem upd_some {H : Hp} {a p : Addr} {o u : HO} (e : H p = some o) : upd H a u p ≠ none := by
  by_cases h : p = a
  · subst h; rw [upd_same]; simp
  · rw [upd_ne h, e]; simp
theorem Stp.same {H H' : Hp} {m : Ms} (h : Same H H') : Stp H m H' m := ⟨fun p o e _ _ => h p o e, fun _ h => .inl h, fun p o e => by rw [h p o e]; simp⟩
theorem Wd.same {K : PySem.W.Frag} {H H' : Hp} {hc : CH} {m : Ms} (w : Wd K H hc m) (h : Same H H') : Wd K H' hc m :=
  ⟨w.tab.ext h, fun a z => let ⟨vs, e⟩ := w.mu a z; ⟨vs, h _ _ e⟩, w.hm, fun a ds e => let ⟨vs, e1, r⟩ := w.heap a ds e; ⟨vs, h _ _ e1, RepL.mono w.mu (.same h) _ _ r⟩⟩
theorem Ex.same {K : PySem.W.Frag} {H H' : Hp} {hc : CH} {m : Ms} (w : Wd K H hc m) (h : Same H H') : Ex K ⟨H, hc, m⟩ H' hc m :=
  ⟨w.same h, w.mu, w.hm, fun p o e _ _ => h p o e, fun _ h => .inl h, fun _ h _ => h, fun p ds e => .inl (by show hc p ≠ none; rw [e]; simp), fun p o e => by rw [h p o e]; simp⟩
theorem Rs.call {K : PySem.W.Frag} {en : En} {σ : L2.St} {H H' : Hp} {sc : List Sl} {hc hc' : CH} {m m' : Ms} (r : Rs K en σ H sc hc m) (x : Ex K ⟨H, hc, m⟩ H' hc' m') : Rs K en σ H' sc hc' m' := by
  have st := x.stp
  refine ⟨r.toEx.trans x, fun i d e => ?_, fun i ds e => ?_, r.sep, r.len⟩
  · obtain ⟨v, e1, q⟩ := r.slot i d e
    exact ⟨v, e1, Rep.mono r.mu st d v q⟩
  · obtain ⟨p, vs, e1, mp, ep, hp, eH, q⟩ := r.own i ds e
    refine ⟨p, vs, e1, x.hold p mp hp, ep, ?_, x.keep p _ eH trivial hp, RepL.mono r.mu st _ _ q⟩
    cases e2 : hc' p with
    | none => rfl
    | some es =>
      rcases x.hgrow p es e2 with y | y
      · exact absurd hp y
      · have y' : H p = none := y
        rw [eH] at y'; cases y'
theorem Rs.same {K : PySem.W.Frag} {en : En} {σ : L2.St} {H H' : Hp} {sc : List Sl} {hc : CH} {m : Ms} (r : Rs K en σ H sc hc m) (h : Same H H') : Rs K en σ H' sc hc m := r.call (Ex.same r.toWd h)

/-- an exception in clean words: its class by the global name, its fields -/
structure Exn where
  cls : Str
  fs : List (Str × D)
abbrev XP := Exn → List Sl → CH → Prop
def RepX (X : Cx) (H : Hp) (m : Ms) (x : Exn) (cls : Value) (d : Option Addr) : Prop :=
  X.mg x.cls = some cls ∧ ((x.fs = [] ∧ d = none) ∨ ∃ dx fs, d = some dx ∧ H dx = some (.xd fs) ∧ fs.map (·.1) = x.fs.map (·.1) ∧ RepL X.K H m (x.fs.map (·.2)) (fs.map (·.2)))
def XOk (X : Cx) (W : WX) (en : En) (E : XP) : Prop := ∀ x sc hc, E x sc hc → ∀ cls d σ H m, Rs X.K en σ H sc hc m → RepX X H m x cls d → W cls d σ H
/-- room for calls; what they may raise is taken -/
structure RT (k : Nat) (X : Cx) (W : WX) : Prop where
  g : RG k X.A
  t : Takes X W
  p : PassesOwn (model X.prog X.w) X.A X.env X.xe
abbrev W0 : WX := fun _ _ _ _ => False
theorem takes0 {X : Cx} : Takes X W0 := fun u s' ⟨_, _, _, _, _, _, _, _, _, _, _, _, _, _, _, _, w⟩ => w.elim
theorem RT.mono {j k : Nat} {X : Cx} {W : WX} (x : RT k X W) (h : j ≤ k) : RT j X W := ⟨x.g.mono h, x.t, x.p⟩
/-- in a comprehension's block: nothing leaves it -/
theorem RT.b {k : Nat} {X : Cx} {W : WX} (x : RT k X W) {s : Shared} {H : Hp} {sc : Scope} {ce : Env} {fp : List Addr} : RT k (X.blk s H sc ce fp) W0 := ⟨x.g, takes0, .never⟩
section
variable {X : Cx} {W : WX} {k : Nat} {f : Addr} {fd : FuncData} {ps : List Str} {sp : Sp} {dvs : List V} {ds : List Value} {x : Str} {p pos : Pos} {e : Expr} {es : List Expr} {t : L2.TA}
theorem runX {pins : List (Addr × Obj)} {σ : L2.St} {H : Hp} {s : Shared} {Q : VK} {us : List Value} {vs : List V} (F : FnG X.prog X.w X.K X.mg X.base (L2.CX X.prog X.w) k f fd ps sp) (g : RT k X W) (hb : Binds X.K fd ps ds) (hd : Vals dvs ds) (I : Inv X pins σ H s)
    (r : Vals vs us) (h : sp (vs ++ dvs) H Q fun cls d H' => W cls d σ H') : wpAny (model X.prog X.w) X.A (call (.ref f) us) (EP X pins σ Q) X.xe s :=
  have r2 : Vals (vs ++ dvs) (us ++ ds) := r.append hd
  wpAny_call (codeAny_mono (F.run X.A X.stack s H ⟨us, []⟩ (us ++ ds) (vs ++ dvs) Q _ g.g I.env0 (hb s us I.kIn (by rw [← r2.length]; exact F.len _ _ _ _ h)) r2 h) fun z s' hq => match z, hq with
    | .error e, hq => g.t e s' (XE.of_call I (fun _ _ _ z => z) hq)
    | .ok (.ret u), hq => I.after hq
    | .ok .next, hq => False.elim hq
    | .ok .brk, hq => False.elim hq
    | .ok .cont, hq => False.elim hq)
theorem pe_callX (F : FnG X.prog X.w X.K X.mg X.base (L2.CX X.prog X.w) k f fd ps sp) (g : RT k X W) (hg : Gl X x) (hm : X.mg x = some (.ref f)) (hk : PySem.W.keepIn X.K (.ref f) = true) (hb : Binds X.K fd ps ds) (hd : Vals dvs ds) (ha : PA X (e :: es) t)
    (hdb : (x == ("__debug__" : Str)) = false) (he : starEach (e :: es) X.env = (false, eval e X.env) :: starEach es X.env) (hpl : (backTo pos (starEach es X.env)).any (·.1) = false) : PE X (.Call (.Name x p) (e :: es) [] pos) (fun σ H Q => t σ H fun vs H1 => sp (vs ++ dvs) H1 Q fun cls d H' => W cls d σ H') :=
  ⟨fun pins s σ H Q I h => wpAny_Call_Name_kw (ld_glob I hg hm (PySem.W.callWith_K (h₀ := X.base) I.ok.mod.kin hk (thn (ha.run pos pins s σ H _ I h) fun us s1 ⟨vs, H1, I1, r, q⟩ => ⟨I1.kIn, runX F g hb hd I1 r q⟩) he hpl) hdb)⟩
theorem pe_callX0 (F : FnG X.prog X.w X.K X.mg X.base (L2.CX X.prog X.w) k f fd ps sp) (g : RT k X W) (hg : Gl X x) (hm : X.mg x = some (.ref f)) (hk : PySem.W.keepIn X.K (.ref f) = true) (hb : Binds X.K fd ps ds) (hd : Vals dvs ds)
    (hdb : (x == ("__debug__" : Str)) = false) : PE X (.Call (.Name x p) [] [] pos) (fun σ H Q => sp ([] ++ dvs) H Q fun cls d H' => W cls d σ H') :=
  ⟨fun pins s σ H Q I h => wpAny_Call_Name_kw (ld_glob I hg hm (PySem.W.callWith_K0 I.kIn hk (runX (us := []) F g hb hd I .nil h)) hdb)⟩
end

/-! ### judgements -/
abbrev CEx := XP → List Sl → CH → (D → CH → Prop) → Prop
abbrev CTx := XP → List Sl → CH → (Bool → CH → Prop) → Prop
abbrev CAx := XP → List Sl → CH → (List D → CH → Prop) → Prop
def RepW (K : PySem.W.Frag) (H : Hp) (m : Ms) : D → V → Prop
  | .lst ds, v => ∃ p vs, v = .ref p ∧ H p = some (.lst vs) ∧ RepL K H m ds vs
  | d, v => Rep K H m d v
theorem Rep.w {K : PySem.W.Frag} {H : Hp} {m : Ms} : ∀ {d : D} {v : V}, Rep K H m d v → RepW K H m d v
  | .non, _, h => h
  | .bl _, _, h => h
  | .int _, _, h => h
  | .str _, _, h => h
  | .tup _, _, h => h
  | .lst _, _, h => by
    unfold Rep at h
    obtain ⟨p, vs, e, _, q, r⟩ := h
    exact ⟨p, vs, e, q, r⟩
  | .ref _, _, h => h
  | .dct _ _, _, h => h
  | .frz _, _, h => h
  | .clo _ _ _, _, h => h
  | .exn _ _ _ _, _, h => h
  | .fn _, _, h => h
/-- a value, or the list that a slot alone holds -/
def RepB (K : PySem.W.Frag) (σ : L2.St) (sc : List Sl) (H : Hp) (m : Ms) (d : D) (v : V) : Prop :=
  Rep K H m d v ∨ ∃ (i : Nat) (ds : List D), sc[i]? = some (Sl.own ds) ∧ d = .lst ds ∧ σ[i]? = some (some v)
theorem RepB.w {K : PySem.W.Frag} {en : En} {σ : L2.St} {sc : List Sl} {H : Hp} {hc : CH} {m : Ms} {d : D} {v : V} (r : Rs K en σ H sc hc m) (h : RepB K σ sc H m d v) : RepW K H m d v := by
  rcases h with h | ⟨i, ds, e1, rfl, e2⟩
  · exact h.w
  · obtain ⟨p, vs, e3, _, _, _, e4, q⟩ := r.own i ds e1
    rw [e2] at e3
    cases e3
    exact ⟨p, vs, rfl, e4, q⟩
theorem RepB.mono {K : PySem.W.Frag} {en : En} {σ : L2.St} {sc : List Sl} {H H' : Hp} {hc : CH} {m m' : Ms} {d : D} {v : V} (r : Rs K en σ H sc hc m) (s : Stp H m H' m') (h : RepB K σ sc H m d v) : RepB K σ sc H' m' d v := by
  rcases h with h | h
  · exact .inl (Rep.mono r.mu s d v h)
  · exact .inr h
def LE (X : Cx) (W : WX) (c : CEx) : TE := fun σ H Q => ∃ en sc hc m E P, Rs X.K en σ H sc hc m ∧ c E sc hc P ∧ XOk X W en E ∧
  ∀ d hc', P d hc' → ∀ v H' m', Ex X.K ⟨H, hc, m⟩ H' hc' m' → Rep X.K H' m' d v → Q v H'
def LB (X : Cx) (W : WX) (c : CEx) : TE := fun σ H Q => ∃ en sc hc m E P, Rs X.K en σ H sc hc m ∧ c E sc hc P ∧ XOk X W en E ∧
  ∀ d hc', P d hc' → ∀ v H' m', Ex X.K ⟨H, hc, m⟩ H' hc' m' → RepB X.K σ sc H' m' d v → Q v H'
def LT (X : Cx) (W : WX) (c : CTx) : TT := fun σ H Q => ∃ en sc hc m E P, Rs X.K en σ H sc hc m ∧ c E sc hc P ∧ XOk X W en E ∧
  ∀ b hc', P b hc' → ∀ H' m', Ex X.K ⟨H, hc, m⟩ H' hc' m' → Q b H'
def LA (X : Cx) (W : WX) (c : CAx) : TA := fun σ H Q => ∃ en sc hc m E P, Rs X.K en σ H sc hc m ∧ c E sc hc P ∧ XOk X W en E ∧
  ∀ ds hc', P ds hc' → ∀ vs H' m', Ex X.K ⟨H, hc, m⟩ H' hc' m' → RepL X.K H' m' ds vs → Q vs H'
structure CE (X : Cx) (W : WX) (e : Expr) (c : CEx) : Prop where
  p : PE X e (LE X W c)
structure CB (X : Cx) (W : WX) (e : Expr) (c : CEx) : Prop where
  p : PE X e (LB X W c)
structure CT (X : Cx) (W : WX) (e : Expr) (c : CTx) : Prop where
  p : PT X e (LT X W c)
structure CA (X : Cx) (W : WX) (es : List Expr) (c : CAx) : Prop where
  p : PA X es (LA X W c)
theorem pe_wk {X : Cx} {e : Expr} {t t' : TE} (h : PE X e t) (g : ∀ σ H Q, t' σ H Q → t σ H Q) : PE X e t' := ⟨fun pins s σ H Q I q => h.run pins s σ H Q I (g σ H Q q)⟩
theorem pt_wk {X : Cx} {e : Expr} {t t' : TT} (h : PT X e t) (g : ∀ σ H Q, t' σ H Q → t σ H Q) : PT X e t' := ⟨fun pins s σ H Q I q => h.run pins s σ H Q I (g σ H Q q)⟩
theorem pa_wk {X : Cx} {e : List Expr} {t t' : TA} (h : PA X e t) (g : ∀ σ H Q, t' σ H Q → t σ H Q) : PA X e t' := ⟨fun pos pins s σ H Q I q => h.run pos pins s σ H Q I (g σ H Q q)⟩
section
variable {X : Cx} {W : WX} {a b e : Expr} {es : List Expr} {ca cb c : CEx} {pos : Pos}
theorem CE.bo (h : CE X W e c) : CB X W e c := ⟨pe_wk h.p fun σ H Q ⟨en, sc, hc, m, E, P, r, k, xo, fin⟩ => ⟨en, sc, hc, m, E, P, r, k, xo, fun d hc' p v H' m' x q => fin d hc' p v H' m' x (.inl q)⟩⟩

/-! ### names, constants -/
def look : List Sl → Nat → Option D
  | [], _ => none
  | .val d :: _, 0 => some d
  | _ :: _, 0 => none
  | _ :: r, n + 1 => look r n
def lookO : List Sl → Nat → Option (List D)
  | [], _ => none
  | .own d :: _, 0 => some d
  | _ :: _, 0 => none
  | _ :: r, n + 1 => lookO r n
theorem look_get : ∀ {sc : List Sl} {i : Nat} {d : D}, look sc i = some d → sc[i]? = some (Sl.val d)
  | [], _, _, h => by cases h
  | .val d' :: r, 0, d, h => by cases h; rfl
  | .un :: r, 0, d, h => by cases h
  | .own _ :: r, 0, d, h => by cases h
  | x :: r, n + 1, d, h => by
    have h' : look r n = some d := by cases x <;> exact h
    simpa using look_get h'
theorem lookO_get : ∀ {sc : List Sl} {i : Nat} {d : List D}, lookO sc i = some d → sc[i]? = some (Sl.own d)
  | [], _, _, h => by cases h
  | .own d' :: r, 0, d, h => by cases h; rfl
  | .un :: r, 0, d, h => by cases h
  | .val _ :: r, 0, d, h => by cases h
  | x :: r, n + 1, d, h => by
    have h' : lookO r n = some d := by cases x <;> exact h
    simpa using lookO_get h'
/-- the name in slot i -/
def cV (i : Nat) : CEx := fun _ sc hc P => match look sc i with | some d => P d hc | none => False
def cC (d : D) : CEx := fun _ _ hc P => P d hc
def cO (i : Nat) : CEx := fun _ sc hc P => match lookO sc i with | some ds => P (.lst ds) hc | none => False
theorem ce_v (i : Nat) {x : Str} (hN : X.N[i]? = some x := by rfl) (hv : Vis X.env.scope x := by first | exact Or.inl rfl | exact Or.inr (Or.inl rfl) | exact Or.inr (Or.inr rfl)) (hd : (x == ("__debug__" : Str)) = false := by decide)
    (hcd : (x == ("__classdict__" : Str)) = false := by decide) : CE X W (.Name x pos) (cV i) := by
  refine ⟨pe_wk (pv i hN hv hd hcd) fun σ H Q ⟨en, sc, hc, m, E, P, r, k, xo, fin⟩ => ?_⟩
  unfold cV at k
  split at k
  · rename_i d e
    obtain ⟨v, e1, q⟩ := r.slot i d (look_get e)
    exact ⟨v, e1, fin d hc k v H m (.refl r.toWd) q⟩
  · exact k.elim
theorem cb_o (i : Nat) {x : Str} (hN : X.N[i]? = some x := by rfl) (hv : Vis X.env.scope x := by first | exact Or.inl rfl | exact Or.inr (Or.inl rfl) | exact Or.inr (Or.inr rfl)) (hd : (x == ("__debug__" : Str)) = false := by decide)
    (hcd : (x == ("__classdict__" : Str)) = false := by decide) : CB X W (.Name x pos) (cO i) := by
  refine ⟨pe_wk (pv i hN hv hd hcd) fun σ H Q ⟨en, sc, hc, m, E, P, r, k, xo, fin⟩ => ?_⟩
  unfold cO at k
  split at k
  · rename_i ds e
    have e' := lookO_get e
    obtain ⟨p, vs, e1, q⟩ := r.own i ds e'
    exact ⟨.ref p, e1, fin _ hc k _ H m (.refl r.toWd) (.inr ⟨i, ds, e', rfl, e1⟩)⟩
  · exact k.elim
theorem ce_c {d : D} {v : V} (h : PE X e (tC v)) (hr : ∀ H m, Rep X.K H m d v) : CE X W e (cC d) :=
  ⟨pe_wk h fun σ H Q ⟨en, sc, hc, m, E, P, r, k, xo, fin⟩ => fin d hc k v H m (.refl r.toWd) (hr H m)⟩
theorem rep_int {K : PySem.W.Frag} {H : Hp} {m : Ms} {i : Int} : Rep K H m (.int i) (.int i) := by unfold Rep; rfl
theorem rep_bl {K : PySem.W.Frag} {H : Hp} {m : Ms} {i : Bool} : Rep K H m (.bl i) (.bl i) := by unfold Rep; rfl
theorem rep_non {K : PySem.W.Frag} {H : Hp} {m : Ms} : Rep K H m .non .non := by unfold Rep; rfl
theorem rep_str {K : PySem.W.Frag} {H : Hp} {m : Ms} {i : Str} : Rep K H m (.str i) (.str i) := by unfold Rep; rfl
theorem ce_i {i : Int} {j : Nat} : CE X W (.Constant (.int i) j pos) (cC (.int i)) := ce_c pe_int fun _ _ => rep_int
theorem ce_b {i : Bool} {j : Nat} : CE X W (.Constant (.bool i) j pos) (cC (.bl i)) := ce_c pe_bl fun _ _ => rep_bl
theorem ce_n {j : Nat} : CE X W (.Constant .none j pos) (cC .non) := ce_c pe_non fun _ _ => rep_non
theorem ce_s {i : Str} {j : Nat} : CE X W (.Constant (.str i) j pos) (cC (.str i)) := ce_c pe_str fun _ _ => rep_str
/-- a module's constant: an int, a text -/
theorem ce_g {x : Str} {d : D} {v : V} {u : Value} (hg : Gl X x) (hm : X.mg x = some u) (r : RelV v u) (hr : ∀ H m, Rep X.K H m d v) (hd : (x == ("__debug__" : Str)) = false := by decide) : CE X W (.Name x pos) (cC d) := ce_c (pe_glob hg hm r hd) hr

/-! ### operations by values -/
abbrev O1 := D → CH → (D → Prop) → Prop
abbrev O2 := D → D → CH → (D → Prop) → Prop
abbrev On := List D → CH → (D → Prop) → Prop
def LV1 (K : PySem.W.Frag) (f : O1) : V → Hp → VK → Prop := fun x H Q => ∃ hc m dx P, Wd K H hc m ∧ RepW K H m dx x ∧ f dx hc P ∧ ∀ d, P d → ∀ v H', Same H H' → Rep K H' m d v → Q v H'
def LV2 (K : PySem.W.Frag) (f : O2) : R2 := fun x y H Q => ∃ hc m dx dy P, Wd K H hc m ∧ RepW K H m dx x ∧ RepW K H m dy y ∧ f dx dy hc P ∧ ∀ d, P d → ∀ v H', Same H H' → Rep K H' m d v → Q v H'
def cOp (f : O2) (ca cb : CEx) : CEx := fun E sc hc P => ca E sc hc fun x hc1 => cb E sc hc1 fun y hc2 => f x y hc2 fun d => P d hc2
def cUn (f : O1) (ca : CEx) : CEx := fun E sc hc P => ca E sc hc fun x hc1 => f x hc1 fun d => P d hc1
theorem op_lift {f : O2} {σ : L2.St} {H : Hp} {Q : VK} (h : LE X W (cOp f ca cb) σ H Q) : LB X W ca σ H fun x H1 => LB X W cb σ H1 fun y H2 => LV2 X.K f x y H2 Q := by
  obtain ⟨en, sc, hc, m, E, P, r, c, xo, fin⟩ := h
  refine ⟨en, sc, hc, m, E, _, r, c, xo, fun dx hc1 hp v H1 m1 x1 q1 => ⟨en, sc, hc1, m1, E, _, r.call x1, hp, xo, fun dy hc2 hp2 w H2 m2 x2 q2 => ⟨hc2, m2, dx, dy, _, x2.toWd, (q1.mono (r.call x1) x2.stp).w ((r.call x1).call x2), q2.w ((r.call x1).call x2), hp2, fun d pd v' H' sm q => ?_⟩⟩⟩
  exact fin d hc2 pd v' H' m2 (x1.trans (x2.trans (Ex.same x2.toWd sm))) q
theorem un_lift {f : O1} {σ : L2.St} {H : Hp} {Q : VK} (h : LE X W (cUn f ca) σ H Q) : LB X W ca σ H fun x H1 => LV1 X.K f x H1 Q := by
  obtain ⟨en, sc, hc, m, E, P, r, c, xo, fin⟩ := h
  refine ⟨en, sc, hc, m, E, _, r, c, xo, fun dx hc1 hp v H1 m1 x1 q1 => ⟨hc1, m1, dx, _, x1.toWd, q1.w (r.call x1), hp, fun d pd v' H' sm q => ?_⟩⟩
  exact fin d hc1 pd v' H' m1 (x1.trans (Ex.same x1.toWd sm)) q
theorem ce_op {op : Operator} {f : O2} (ho : OpR X (binaryOp op) (LV2 X.K f)) (ha : CB X W a ca) (hb : CB X W b cb) : CE X W (.BinOp a op b pos) (cOp f ca cb) :=
  ⟨pe_wk (pe_op ho ha.p hb.p) fun σ H Q h => op_lift h⟩
theorem ce_un {op : UnaryOp} {f : O1} (ho : UnR X (unaryOp op) (LV1 X.K f)) (ha : CB X W a ca) : CE X W (.UnaryOp op a pos) (cUn f ca) :=
  ⟨pe_wk (pe_un ho ha.p) fun σ H Q h => un_lift h⟩
theorem ce_cmp {op : CmpOp} {f : O2} (ho : OpR X (compareOp op) (LV2 X.K f)) (ha : CB X W a ca) (hb : CB X W b cb) (hm : behindInMarks op b = false := by first | exact nomark _ | rfl) : CE X W (.Compare a [op] [b] pos) (cOp f ca cb) :=
  ⟨pe_wk (pe_cmpR ho ha.p hb.p hm) fun σ H Q h => op_lift h⟩
/-- an expression that gives a bool, as a test -/
def cT (c : CEx) : CTx := fun E sc hc P => c E sc hc fun d hc' => match d with | .bl b => P b hc' | _ => False
theorem t_lift {σ : L2.St} {H : Hp} {Q : Bool → Hp → Prop} (h : LT X W (cT c) σ H Q) : LE X W c σ H fun x H1 => ∃ k, x = .bl k ∧ Q k H1 := by
  obtain ⟨en, sc, hc, m, E, P, r, k, xo, fin⟩ := h
  refine ⟨en, sc, hc, m, E, _, r, k, xo, fun d hc1 hp v H1 m1 x1 q1 => ?_⟩
  cases d <;> try exact hp.elim
  unfold Rep at q1
  exact ⟨_, q1, fin _ hc1 hp H1 m1 x1⟩
theorem ct_cmp {op : CmpOp} {f : O2} (ho : OpR X (compareOp op) (LV2 X.K f)) (ha : CB X W a ca) (hb : CB X W b cb) (hm : behindInMarks op b = false := by first | exact nomark _ | rfl) : CT X W (.Compare a [op] [b] pos) (cT (cOp f ca cb)) :=
  ⟨pt_wk (pt_cmpR ho ha.p hb.p hm) fun σ H Q h => by
    obtain ⟨en, sc, hc, m, E, P, r, c, xo, fin⟩ := t_lift h
    exact op_lift ⟨en, sc, hc, m, E, P, r, c, xo, fin⟩⟩
theorem ct_e (h : CE X W e c) (he : ∀ whole, isTrue e X.env whole = (do let v ← whole; standAt e.pos; holding [v] (truthy v)) := by intro _; rfl) : CT X W e (cT c) :=
  ⟨pt_wk (pt_val h.p he) fun σ H Q h => t_lift h⟩
end
end Mn

namespace Mn
open PySem PySem.Spec PyProof.Rows L2
theorem same_upd {H : Hp} {p : Addr} {o : HO} (h : H p = none) : Same H (upd H p o) := fun b x e => by
  rw [upd_ne (ne_of_none e h)]
  exact e
theorem rep_lst {K : PySem.W.Frag} {H : Hp} {m : Ms} {p : Addr} {ds : List D} {vs : List V} (w : MutOk H m) (n : H p = none) (r : RepL K H m ds vs) : Rep K (upd H p (.lst vs)) m (.lst ds) (.ref p) := by
  unfold Rep
  refine ⟨p, vs, rfl, fun z => ?_, upd_same, RepL.mono w (.same (same_upd n)) _ _ r⟩
  obtain ⟨vs, e⟩ := w p z
  rw [n] at e; cases e
theorem rep_tup {K : PySem.W.Frag} {H : Hp} {m : Ms} {p : Addr} {ds : List D} {vs : List V} (w : MutOk H m) (n : H p = none) (r : RepL K H m ds vs) : Rep K (upd H p (.tup vs)) m (.tup ds) (.ref p) := by
  unfold Rep
  exact ⟨p, vs, rfl, .inl (.inl upd_same), RepL.mono w (.same (same_upd n)) _ _ r⟩
theorem rep_same {K : PySem.W.Frag} {H H' : Hp} {m : Ms} {d : D} {v : V} (w : MutOk H m) (s : Same H H') (h : Rep K H m d v) : Rep K H' m d v := Rep.mono w (.same s) _ _ h

section
variable {X : Cx}
/-! ### +, -, * .. -/
def addD : O2
  | .int i, .int j, _, P => P (.int (i + j))
  | .str x, .str y, _, P => x.length + y.length ≤ sizeLine ∧ P (.str (x ++ y))
  | .lst xs, .lst ys, _, P => xs.length + ys.length ≤ sizeLine ∧ P (.lst (xs ++ ys))
  | .tup xs, .tup ys, _, P => xs.length + ys.length ≤ sizeLine ∧ P (.tup (xs ++ ys))
  | .ref a, .lst ys, hc, P => oth (hc a) fun xs => xs.length + ys.length ≤ sizeLine ∧ P (.lst (xs ++ ys))
  | .lst xs, .ref a, hc, P => oth (hc a) fun ys => xs.length + ys.length ≤ sizeLine ∧ P (.lst (xs ++ ys))
  | _, _, _, _ => False
theorem op_addD : OpR X (binaryOp .Add) (LV2 X.K addD) := by
  intro pins s σ H x y v u Q I rx ry h
  obtain ⟨hc, m, dx, dy, P, w, h1, h2, f, fin⟩ := h
  cases dx <;> cases dy <;> try exact f.elim
  · unfold RepW Rep at h1 h2
    subst h1; subst h2
    exact op_add pins s σ H _ _ v u Q I rx ry ⟨_, _, rfl, rfl, fin _ f _ _ (.refl H) rep_int⟩
  · unfold RepW Rep at h1 h2
    subst h1; subst h2
    exact op_add_str pins s σ H _ _ v u Q I rx ry ⟨_, _, rfl, rfl, f.1, fin _ f.2 _ _ (.refl H) rep_str⟩
  · rename_i xs ys
    unfold RepW Rep at h1 h2
    obtain ⟨p, vs, rfl, q1, r1⟩ := h1
    obtain ⟨p2, vs2, rfl, q2, r2⟩ := h2
    refine op_catA pins s σ H _ _ v u Q I rx ry ⟨p, p2, vs, vs2, rfl, rfl, q1, q2, by rw [← r1.length, ← r2.length]; exact f.1, fun e => ?_, fun _ e => ?_, fun _ _ q n => ?_⟩
    · subst e
      have := r1.length
      have e0 : xs = [] := List.length_eq_zero_iff.mp this
      subst e0
      exact fin _ f.2 _ _ (.refl H) (by unfold Rep; exact ⟨p2, vs2, rfl, q2, r2⟩)
    · subst e
      have := r2.length
      have e0 : ys = [] := List.length_eq_zero_iff.mp this
      subst e0
      exact fin _ f.2 _ _ (.refl H) (by rw [List.append_nil]; unfold Rep; exact ⟨p, vs, rfl, q1, r1⟩)
    · exact fin _ f.2 _ _ (same_upd n) (rep_tup w.mu n (r1.append r2))
  · rename_i xs ys
    unfold RepW at h1 h2
    obtain ⟨p, vs, rfl, q1, r1⟩ := h1
    obtain ⟨p2, vs2, rfl, q2, r2⟩ := h2
    exact op_cat pins s σ H _ _ v u Q I rx ry ⟨p, p2, vs, vs2, rfl, rfl, q1, q2, by rw [← r1.length, ← r2.length]; exact f.1, fun q n => fin _ f.2 _ _ (same_upd n) (rep_lst w.mu n (r1.append r2))⟩
  · unfold RepW at h1 h2
    unfold Rep at h2
    obtain ⟨p, vs, rfl, q1, r1⟩ := h1
    subst h2
    obtain ⟨zs, e, lz, f⟩ := oth_of f
    obtain ⟨ws, q2, r2⟩ := w.heap _ _ e
    exact op_cat pins s σ H _ _ v u Q I rx ry ⟨p, _, vs, ws, rfl, rfl, q1, q2, by rw [← r1.length, ← r2.length]; exact lz, fun q n => fin _ f _ _ (same_upd n) (rep_lst w.mu n (r1.append r2))⟩
  · unfold RepW at h1 h2
    unfold Rep at h1
    obtain ⟨p, vs, rfl, q1, r1⟩ := h2
    subst h1
    obtain ⟨zs, e, lz, f⟩ := oth_of f
    obtain ⟨ws, q2, r2⟩ := w.heap _ _ e
    exact op_cat pins s σ H _ _ v u Q I rx ry ⟨_, p, ws, vs, rfl, rfl, q2, q1, by rw [← r1.length, ← r2.length]; exact lz, fun q n => fin _ f _ _ (same_upd n) (rep_lst w.mu n (r2.append r1))⟩
/-- ints in, an int out, under C -/
def intD (C : Int → Int → Prop) (g : Int → Int → Int) : O2
  | .int i, .int j, _, P => C i j ∧ P (.int (g i j))
  | _, _, _, _ => False
def intD0 (g : Int → Int → Int) : O2
  | .int i, .int j, _, P => P (.int (g i j))
  | _, _, _, _ => False
theorem op_intD {f : Value → Value → Sem Value} {C : Int → Int → Prop} {g : Int → Int → Int} (ho : OpR X f (rI C fun i j => .int (g i j))) : OpR X f (LV2 X.K (intD C g)) := by
  intro pins s σ H x y v u Q I rx ry h
  obtain ⟨hc, m, dx, dy, P, w, h1, h2, f, fin⟩ := h
  cases dx <;> cases dy <;> try exact f.elim
  unfold RepW Rep at h1 h2
  subst h1; subst h2
  exact ho pins s σ H _ _ v u Q I rx ry ⟨_, _, rfl, rfl, f.1, fin _ f.2 _ _ (.refl H) rep_int⟩
theorem op_intD0 {f : Value → Value → Sem Value} {g : Int → Int → Int} (ho : OpR X f (rI0 fun i j => .int (g i j))) : OpR X f (LV2 X.K (intD0 g)) := by
  intro pins s σ H x y v u Q I rx ry h
  obtain ⟨hc, m, dx, dy, P, w, h1, h2, f, fin⟩ := h
  cases dx <;> cases dy <;> try exact f.elim
  unfold RepW Rep at h1 h2
  subst h1; subst h2
  exact ho pins s σ H _ _ v u Q I rx ry ⟨_, _, rfl, rfl, fin _ f _ _ (.refl H) rep_int⟩
abbrev subD : O2 := intD0 fun i j => i - j
theorem op_subD : OpR X (binaryOp .Sub) (LV2 X.K subD) := op_intD0 op_sub
/-- the bits of both factors -/
def MulOk (i j : Int) : Prop := IntMulOk i j
theorem mulOk {i j : Int} (a b : Nat) (ha : i.natAbs < 2 ^ a) (hb : j.natAbs < 2 ^ b) (h : a + b ≤ 134217728) : MulOk i j := (mulx_ok ha hb h).ok
theorem mulOk_l {i j : Int} (h : -(2 ^ 64) < i ∧ i < 2 ^ 64) : MulOk i j := CMul.ok (.inl h)
theorem mulOk_r {i j : Int} (h : -(2 ^ 64) < j ∧ j < 2 ^ 64) : MulOk i j := CMul.ok (.inr h)
theorem op_mulI : OpR X (binaryOp .Mult) (rI MulOk fun i j => .int (i * j)) := opI fun _ _ _ _ _ _ _ hc q => mul_int q hc
def mulD : O2
  | .int i, .int j, _, P => MulOk i j ∧ P (.int (i * j))
  | .lst xs, .int k, _, P => (-(2 ^ 63) ≤ k ∧ k < 2 ^ 63 ∧ xs.length * k.toNat ≤ sizeLine) ∧ P (.lst (List.replicate k.toNat xs).flatten)
  | .tup xs, .int k, _, P => (xs ≠ [] ∧ 2 ≤ k ∧ k ≤ 1000 ∧ xs.length ≤ 1000) ∧ P (.tup (List.replicate k.toNat xs).flatten)
  | _, _, _, _ => False
theorem RepL.rep {K : PySem.W.Frag} {H : Hp} {m : Ms} {ds : List D} {vs : List V} (h : RepL K H m ds vs) : ∀ n : Nat, RepL K H m (List.replicate n ds).flatten (List.replicate n vs).flatten
  | 0 => RepL.nil
  | n + 1 => by
    rw [List.replicate_succ, List.replicate_succ, List.flatten_cons, List.flatten_cons]
    exact h.append (RepL.rep h n)
theorem op_mulD : OpR X (binaryOp .Mult) (LV2 X.K mulD) := by
  intro pins s σ H x y v u Q I rx ry h
  obtain ⟨hc, m, dx, dy, P, w, h1, h2, f, fin⟩ := h
  cases dx <;> cases dy <;> try exact f.elim
  · unfold RepW Rep at h1 h2
    subst h1; subst h2
    exact op_mulI pins s σ H _ _ v u Q I rx ry ⟨_, _, rfl, rfl, f.1, fin _ f.2 _ _ (.refl H) rep_int⟩
  · unfold RepW Rep at h1 h2
    obtain ⟨p, vs, rfl, q1, r1⟩ := h1
    subst h2
    exact op_repT pins s σ H _ _ v u Q I rx ry ⟨p, _, vs, rfl, rfl, q1, fun e => f.1.1 (by
      have l := r1.length
      rw [e] at l
      exact List.length_eq_zero_iff.mp l), f.1.2.1, f.1.2.2.1, by rw [← r1.length]; exact f.1.2.2.2, fun q n => fin _ f.2 _ _ (same_upd n) (rep_tup w.mu n (r1.rep _))⟩
  · unfold RepW at h1 h2
    unfold Rep at h2
    obtain ⟨p, vs, rfl, q1, r1⟩ := h1
    subst h2
    exact op_rep pins s σ H _ _ v u Q I rx ry ⟨p, _, vs, rfl, rfl, q1, f.1.1, f.1.2.1, by rw [← r1.length]; exact f.1.2.2, fun q n => fin _ f.2 _ _ (same_upd n) (rep_lst w.mu n (r1.rep _))⟩
/-- the divisor is not 0, and C's own division does it -/
def DivOk (i j : Int) : Prop := 0 < j ∧ Builtin.divisionGoesByPylong i j = false
theorem divOk {i j : Int} (b : Nat) (h : 0 < j) (hb : j.natAbs < 2 ^ b) (h9 : b ≤ 9000) : DivOk i j := by
  by_cases hb0 : b = 0
  · subst hb0
    have : j.natAbs < 1 := by simpa using hb
    omega
  · exact ⟨h, PyProof.noPylong_of_log2 (Nat.lt_of_lt_of_le (PySem.Flt.log2_lt_of (by omega) hb) h9)⟩
theorem op_fdivI : OpR X (binaryOp .FloorDiv) (rI DivOk fun i j => .int (i / j)) := opI fun i j _ _ _ _ _ hc q => by
  have h1 : (0 : Int) < j := hc.1
  exact floordiv_int (by omega) (by rw [Int.fdiv_eq_ediv_of_nonneg i (by omega)]; exact q) (.inl hc.2)
abbrev fdivD : O2 := intD DivOk fun i j => i / j
theorem op_fdivD : OpR X (binaryOp .FloorDiv) (LV2 X.K fdivD) := op_intD op_fdivI
abbrev modD : O2 := intD (fun _ j => 0 < j) fun i j => i % j
theorem op_modD : OpR X (binaryOp .Mod) (LV2 X.K modD) := op_intD op_mod
abbrev powD : O2 := intD CPow fun i j => i ^ j.toNat
theorem op_powD : OpR X (binaryOp .Pow) (LV2 X.K powD) := op_intD op_pow
abbrev shlD : O2 := intD CShl fun i j => i * 2 ^ j.toNat
theorem op_shlD : OpR X (binaryOp .LShift) (LV2 X.K shlD) := op_intD op_shlW
abbrev shrD : O2 := intD (fun _ j => 0 ≤ j) fun i j => i / 2 ^ j.toNat
theorem op_shrD : OpR X (binaryOp .RShift) (LV2 X.K shrD) := op_intD op_shr
abbrev andD : O2 := intD0 Builtin.bitAnd
theorem op_andD : OpR X (binaryOp .BitAnd) (LV2 X.K andD) := op_intD0 op_and
abbrev orD : O2 := intD0 Builtin.bitOr
theorem op_orD : OpR X (binaryOp .BitOr) (LV2 X.K orD) := op_intD0 op_or
def negD : O1
  | .int i, _, P => P (.int (-i))
  | _, _, _ => False
theorem un_negD : UnR X (unaryOp .USub) (LV1 X.K negD) := by
  intro pins s σ H x v Q I rx h
  obtain ⟨hc, m, dx, P, w, h1, f, fin⟩ := h
  cases dx <;> try exact f.elim
  unfold RepW Rep at h1
  subst h1
  exact un_neg pins s σ H _ v Q I rx ⟨_, rfl, fin _ f _ _ (.refl H) rep_int⟩
end
end Mn

namespace Mn
open PySem PySem.Spec PyProof.Rows L2
/-! ### data without mutable things -/
mutual
def toPy : D → Option PyData
  | .non => some .none
  | .bl b => some (.bool b)
  | .int i => some (.int i)
  | .str s => some (.str s)
  | .tup xs => (toPyL xs).map .tuple
  | .lst xs => (toPyL xs).map .list
  | .ref _ => none
  | .dct _ _ => none
  | .frz _ => none
  | .clo _ _ _ => none
  | .exn _ _ _ _ => none
  | .fn _ => none
def toPyL : List D → Option (List PyData)
  | [] => some []
  | d :: ds => match toPy d, toPyL ds with
    | some p, some ps => some (p :: ps)
    | _, _ => none
end
mutual
theorem dp_of {K : PySem.W.Frag} {H : Hp} {m : Ms} : ∀ (d : D) (v : V) (p : PyData), toPy d = some p → Rep K H m d v → Dp K H v p
  | .non, v, p, e, h => by unfold toPy at e; unfold Rep at h; cases e; subst h; exact .non
  | .bl _, v, p, e, h => by unfold toPy at e; unfold Rep at h; cases e; subst h; exact .bl _
  | .int _, v, p, e, h => by unfold toPy at e; unfold Rep at h; cases e; subst h; exact .int _
  | .str _, v, p, e, h => by unfold toPy at e; unfold Rep at h; cases e; subst h; exact .str _
  | .tup xs, v, p, e, h => by
    unfold toPy at e; unfold Rep at h
    obtain ⟨a, vs, rfl, q, r⟩ := h
    cases e2 : toPyL xs with
    | none => rw [e2] at e; cases e
    | some ps => rw [e2] at e; cases e; exact .tup q (dpl_of xs vs ps e2 r)
  | .lst xs, v, p, e, h => by
    unfold toPy at e; unfold Rep at h
    obtain ⟨a, vs, rfl, _, q, r⟩ := h
    cases e2 : toPyL xs with
    | none => rw [e2] at e; cases e
    | some ps => rw [e2] at e; cases e; exact .lst (.of q) (dpl_of xs vs ps e2 r)
  | .ref _, v, p, e, h => by unfold toPy at e; cases e
  | .dct _ _, v, p, e, h => by unfold toPy at e; cases e
  | .frz _, v, p, e, h => by unfold toPy at e; cases e
  | .clo _ _ _, v, p, e, h => by unfold toPy at e; cases e
  | .exn _ _ _ _, v, p, e, h => by unfold toPy at e; cases e
  | .fn _, v, p, e, h => by unfold toPy at e; cases e
theorem dpl_of {K : PySem.W.Frag} {H : Hp} {m : Ms} : ∀ (ds : List D) (vs : List V) (ps : List PyData), toPyL ds = some ps → RepL K H m ds vs → DpAll K H vs ps
  | [], vs, ps, e, h => by unfold toPyL at e; unfold RepL at h; cases e; subst h; exact .nil
  | d :: ds, vs, ps, e, h => by
    unfold toPyL at e; unfold RepL at h
    obtain ⟨v, r, rfl, h1, h2⟩ := h
    cases e1 : toPy d with
    | none => rw [e1] at e; cases e
    | some p =>
      cases e2 : toPyL ds with
      | none => rw [e1, e2] at e; cases e
      | some ps' => rw [e1, e2] at e; cases e; exact .cons (dp_of d v p e1 h1) (dpl_of ds r ps' e2 h2)
end
theorem dpw_of {K : PySem.W.Frag} {H : Hp} {m : Ms} : ∀ (d : D) (v : V) (p : PyData), toPy d = some p → RepW K H m d v → Dp K H v p
  | .lst xs, v, p, e, h => by
    unfold toPy at e; unfold RepW at h
    obtain ⟨a, vs, rfl, q, r⟩ := h
    cases e2 : toPyL xs with
    | none => rw [e2] at e; cases e
    | some ps => rw [e2] at e; cases e; exact .lst (.of q) (dpl_of xs vs ps e2 r)
  | .non, v, p, e, h => dp_of (m := m) _ v p e h
  | .bl _, v, p, e, h => dp_of (m := m) _ v p e h
  | .int _, v, p, e, h => dp_of (m := m) _ v p e h
  | .str _, v, p, e, h => dp_of (m := m) _ v p e h
  | .tup xs, v, p, e, h => dp_of (m := m) _ v p e h
  | .ref _, v, p, e, h => by unfold toPy at e; cases e
  | .dct _ _, v, p, e, h => by unfold toPy at e; cases e
  | .frz _, v, p, e, h => by unfold toPy at e; cases e
  | .clo _ _ _, v, p, e, h => by unfold toPy at e; cases e
  | .exn _ _ _ _, v, p, e, h => by unfold toPy at e; cases e
  | .fn _, v, p, e, h => by unfold toPy at e; cases e
/-- == -/
def eqG (neg : Bool) (x y : D) (P : D → Prop) : Prop := ∃ p q, toPy x = some p ∧ toPy y = some q ∧ SeqAt.shaped p = true ∧ SeqAt.shaped q = true ∧ P (.bl (if neg then !PyData.eqv p q else PyData.eqv p q))
def eqD : O2 := fun x y _ P => match x, y with
  | .int i, .int j => P (.bl (decide (i = j)))
  | .str a, .str b => P (.bl (decide (a = b)))
  | .non, .non => P (.bl true)
  | x, y => eqG false x y P
def neD : O2 := fun x y _ P => match x, y with
  | .int i, .int j => P (.bl (!decide (i = j)))
  | .str a, .str b => P (.bl (!decide (a = b)))
  | .non, .non => P (.bl false)
  | x, y => eqG true x y P
def cmpD (f : Int → Int → Bool) : O2
  | .int i, .int j, _, P => P (.bl (f i j))
  | _, _, _, _ => False
abbrev ltD : O2 := cmpD fun i j => decide (i < j)
abbrev leD : O2 := cmpD fun i j => decide (i ≤ j)
abbrev gtD : O2 := cmpD fun i j => decide (j < i)
abbrev geD : O2 := cmpD fun i j => decide (j ≤ i)
/-- x is None -/
def isND : O2
  | .non, .non, _, P => P (.bl true)
  | .ref _, .non, _, P => P (.bl false)
  | .lst _, .non, _, P => P (.bl false)
  | .tup _, .non, _, P => P (.bl false)
  | .dct _ _, .non, _, P => P (.bl false)
  | .int _, .non, _, P => P (.bl false)
  | .bl _, .non, _, P => P (.bl false)
  | .str _, .non, _, P => P (.bl false)
  | _, _, _, _ => False
def notND : O2
  | .non, .non, _, P => P (.bl false)
  | .ref _, .non, _, P => P (.bl true)
  | .lst _, .non, _, P => P (.bl true)
  | .tup _, .non, _, P => P (.bl true)
  | .dct _ _, .non, _, P => P (.bl true)
  | .int _, .non, _, P => P (.bl true)
  | .bl _, .non, _, P => P (.bl true)
  | .str _, .non, _, P => P (.bl true)
  | _, _, _, _ => False
theorem repw_nn {K : PySem.W.Frag} {H : Hp} {m : Ms} : ∀ {d : D} {v : V}, RepW K H m d v → d ≠ .non → v ≠ .non
  | .non, _, _, hd => absurd rfl hd
  | .bl _, v, h, _ => by unfold RepW Rep at h; rw [h]; exact fun e => nomatch e
  | .int _, v, h, _ => by unfold RepW Rep at h; rw [h]; exact fun e => nomatch e
  | .str _, v, h, _ => by unfold RepW Rep at h; rw [h]; exact fun e => nomatch e
  | .tup _, v, h, _ => by unfold RepW Rep at h; obtain ⟨p, vs, e, _⟩ := h; rw [e]; exact fun e => nomatch e
  | .lst _, v, h, _ => by unfold RepW at h; obtain ⟨p, vs, e, _⟩ := h; rw [e]; exact fun e => nomatch e
  | .ref _, v, h, _ => by unfold RepW Rep at h; rw [h]; exact fun e => nomatch e
  | .dct _ _, v, h, _ => by unfold RepW Rep at h; obtain ⟨p, vs, e, _⟩ := h; rw [e]; exact fun e => nomatch e
  | .frz _, v, h, _ => by unfold RepW Rep at h; obtain ⟨p, vs, e, _⟩ := h; rw [e]; exact fun e => nomatch e
  | .clo _ _ _, v, h, _ => by unfold RepW Rep at h; rw [h.1]; exact fun e => nomatch e
  | .exn _ _ _ _, v, h, _ => by unfold RepW Rep at h; rw [h.1]; exact fun e => nomatch e
  | .fn _, v, h, _ => by unfold RepW Rep at h; rw [h]; exact fun e => nomatch e
section
variable {X : Cx}
theorem op_cmpD {f : Value → Value → Sem Value} {g : Int → Int → Bool} (ho : OpR X f (rI0 fun i j => .bl (g i j))) : OpR X f (LV2 X.K (cmpD g)) := by
  intro pins s σ H x y v u Q I rx ry h
  obtain ⟨hc, m, dx, dy, P, w, h1, h2, f, fin⟩ := h
  cases dx <;> cases dy <;> try exact f.elim
  unfold RepW Rep at h1 h2
  subst h1; subst h2
  exact ho pins s σ H _ _ v u Q I rx ry ⟨_, _, rfl, rfl, fin _ f _ _ (.refl H) rep_bl⟩
theorem op_ltD : OpR X (compareOp .Lt) (LV2 X.K ltD) := op_cmpD op_lt
theorem op_leD : OpR X (compareOp .LtE) (LV2 X.K leD) := op_cmpD op_le
theorem op_gtD : OpR X (compareOp .Gt) (LV2 X.K gtD) := op_cmpD op_gt
theorem op_geD : OpR X (compareOp .GtE) (LV2 X.K geD) := op_cmpD op_ge
theorem op_isND : OpR X (compareOp .Is) (LV2 X.K isND) := by
  intro pins s σ H x y v u Q I rx ry h
  obtain ⟨hc, m, dx, dy, P, w, h1, h2, f, fin⟩ := h
  have hy : dy = .non := by cases dy <;> first | rfl | (cases dx <;> exact f.elim)
  subst hy
  have e2 : y = .non := by unfold RepW Rep at h2; exact h2
  subst e2
  refine op_isN pins s σ H _ _ v u Q I rx ry ⟨rfl, ?_⟩
  by_cases hx : dx = .non
  · subst hx
    unfold RepW Rep at h1
    subst h1
    exact fin _ f _ _ (.refl H) rep_bl
  · rw [decide_eq_false (repw_nn h1 hx)]
    cases dx <;> first | exact f.elim | exact absurd rfl hx | exact fin _ f _ _ (.refl H) rep_bl
theorem op_notND : OpR X (compareOp .IsNot) (LV2 X.K notND) := by
  intro pins s σ H x y v u Q I rx ry h
  obtain ⟨hc, m, dx, dy, P, w, h1, h2, f, fin⟩ := h
  have hy : dy = .non := by cases dy <;> first | rfl | (cases dx <;> exact f.elim)
  subst hy
  have e2 : y = .non := by unfold RepW Rep at h2; exact h2
  subst e2
  refine op_notN pins s σ H _ _ v u Q I rx ry ⟨rfl, ?_⟩
  by_cases hx : dx = .non
  · subst hx
    unfold RepW Rep at h1
    subst h1
    exact fin _ f _ _ (.refl H) rep_bl
  · rw [decide_eq_false (repw_nn h1 hx)]
    cases dx <;> first | exact f.elim | exact absurd rfl hx | exact fin _ f _ _ (.refl H) rep_bl
theorem eq_flat {K : PySem.W.Frag} {H : Hp} {m : Ms} {Q : VK} {P : D → Prop} {b : Bool} (fin : ∀ d, P d → ∀ v H', Same H H' → Rep K H' m d v → Q v H') (h : P (.bl b)) : Q (.bl b) H := fin _ h _ _ (.refl H) rep_bl
theorem op_eqDD (hu : X.A.units + 64 < cLine) : OpR X (compareOp .Eq) (LV2 X.K eqD) := by
  intro pins s σ H x y v u Q I rx ry h
  obtain ⟨hc, m, dx, dy, P, w, h1, h2, f, fin⟩ := h
  have gen : eqG false dx dy P → wpAny (model X.prog X.w) X.A (compareOp .Eq v u) (EP X pins σ Q) X.xe s := fun ⟨p, q, e1, e2, s1, s2, k⟩ =>
    op_eqD hu pins s σ H x y v u Q I rx ry ⟨p, q, dpw_of _ _ _ e1 h1, dpw_of _ _ _ e2 h2, s1, s2, eq_flat fin k⟩
  unfold eqD at f
  split at f
  · unfold RepW Rep at h1 h2
    subst h1; subst h2
    refine op_eq pins s σ H _ _ v u Q I rx ry ⟨rfl, ?_⟩
    rw [show decide (V.int _ = V.int _) = decide (_ = _) from decide_eq_decide.mpr ⟨fun e => V.int.inj e, fun e => congrArg V.int e⟩]
    exact eq_flat fin f
  · unfold RepW Rep at h1 h2
    subst h1; subst h2
    refine op_eq pins s σ H _ _ v u Q I rx ry ⟨rfl, ?_⟩
    rw [show decide (V.str _ = V.str _) = decide (_ = _) from decide_eq_decide.mpr ⟨fun e => V.str.inj e, fun e => congrArg V.str e⟩]
    exact eq_flat fin f
  · exact gen ⟨.none, .none, rfl, rfl, rfl, rfl, f⟩
  · exact gen f
theorem op_neDD (hu : X.A.units + 64 < cLine) : OpR X (compareOp .NotEq) (LV2 X.K neD) := by
  intro pins s σ H x y v u Q I rx ry h
  obtain ⟨hc, m, dx, dy, P, w, h1, h2, f, fin⟩ := h
  have gen : eqG true dx dy P → wpAny (model X.prog X.w) X.A (compareOp .NotEq v u) (EP X pins σ Q) X.xe s := fun ⟨p, q, e1, e2, s1, s2, k⟩ =>
    op_neD hu pins s σ H x y v u Q I rx ry ⟨p, q, dpw_of _ _ _ e1 h1, dpw_of _ _ _ e2 h2, s1, s2, eq_flat fin k⟩
  unfold neD at f
  split at f
  · unfold RepW Rep at h1 h2
    subst h1; subst h2
    refine op_ne pins s σ H _ _ v u Q I rx ry ⟨rfl, ?_⟩
    rw [show decide (V.int _ = V.int _) = decide (_ = _) from decide_eq_decide.mpr ⟨fun e => V.int.inj e, fun e => congrArg V.int e⟩]
    exact eq_flat fin f
  · unfold RepW Rep at h1 h2
    subst h1; subst h2
    refine op_ne pins s σ H _ _ v u Q I rx ry ⟨rfl, ?_⟩
    rw [show decide (V.str _ = V.str _) = decide (_ = _) from decide_eq_decide.mpr ⟨fun e => V.str.inj e, fun e => congrArg V.str e⟩]
    exact eq_flat fin f
  · exact gen ⟨.none, .none, rfl, rfl, rfl, rfl, f⟩
  · exact gen f
end
section
variable {X : Cx} {W : WX} {a b c e : Expr} {es rest : List Expr} {ca cb cc : CEx} {ta tb : CTx} {pos : Pos}
/-! ### chains, and, or, not, if -/
def cCh (f g : O2) (ca cb cc : CEx) : CEx := fun E sc hc P => ca E sc hc fun x hc1 => cb E sc hc1 fun y hc2 => f x y hc2 fun d => match d with
  | .bl true => cc E sc hc2 fun z hc3 => g y z hc3 fun r => P r hc3
  | .bl false => P (.bl false) hc2
  | _ => False
theorem ch_lift {f g : O2} {σ : L2.St} {H : Hp} {Q : VK} (h : LE X W (cCh f g ca cb cc) σ H Q) : tChain (LV2 X.K f) (LV2 X.K g) (LB X W ca) (LB X W cb) (LB X W cc) σ H Q := by
  obtain ⟨en, sc, hc, m, E, P, r, c, xo, fin⟩ := h
  refine ⟨en, sc, hc, m, E, _, r, c, xo, fun dx hc1 hp v H1 m1 x1 q1 => ⟨en, sc, hc1, m1, E, _, r.call x1, hp, xo, fun dy hc2 hp2 w H2 m2 x2 q2 => ⟨hc2, m2, dx, dy, _, x2.toWd, (q1.mono (r.call x1) x2.stp).w ((r.call x1).call x2), q2.w ((r.call x1).call x2), hp2, fun d pd v' H' sm q => ?_⟩⟩⟩
  cases d <;> try exact pd.elim
  rename_i bb
  unfold Rep at q
  subst q
  have r1 := r.call x1
  have r2 := r1.call x2
  have x3 := x1.trans (x2.trans (Ex.same x2.toWd sm))
  have r3 := r.call x3
  cases bb with
  | true =>
    refine ⟨true, rfl, ?_⟩
    rw [if_pos rfl]
    refine ⟨en, sc, hc2, m2, E, _, r3, pd, xo, fun dz hc3 hp3 z H3 m3 x4 q4 => ⟨hc3, m3, dy, dz, _, x4.toWd, ((q2.mono r2 (.same sm)).mono r3 x4.stp).w (r3.call x4), q4.w (r3.call x4), hp3, fun d' pd' v2 H2' sm2 qq => ?_⟩⟩
    exact fin d' hc3 pd' v2 H2' m3 (x3.trans (x4.trans (Ex.same x4.toWd sm2))) qq
  | false =>
    refine ⟨false, rfl, ?_⟩
    rw [if_neg Bool.false_ne_true]
    exact fin _ hc2 pd _ _ m2 x3 rep_bl
theorem ce_ch {o1 o2 : CmpOp} {f g : O2} (h1 : OpR X (compareOp o1) (LV2 X.K f)) (h2 : OpR X (compareOp o2) (LV2 X.K g)) (ha : CB X W a ca) (hb : CB X W b cb) (hc : CB X W c cc) (hm : lastMarks [o1, o2] [b, c] = false := by with_unfolding_all rfl) : CE X W (.Compare a [o1, o2] [b, c] pos) (cCh f g ca cb cc) :=
  ⟨pe_wk (pe_chain h1 h2 ha.p hb.p hc.p hm) fun σ H Q h => ch_lift h⟩
theorem ct_ch {o1 o2 : CmpOp} {f g : O2} (h1 : OpR X (compareOp o1) (LV2 X.K f)) (h2 : OpR X (compareOp o2) (LV2 X.K g)) (ha : CB X W a ca) (hb : CB X W b cb) (hc : CB X W c cc) (hm : lastMarks [o1, o2] [b, c] = false := by with_unfolding_all rfl) : CT X W (.Compare a [o1, o2] [b, c] pos) (cT (cCh f g ca cb cc)) :=
  ⟨pt_wk (pt_chain h1 h2 ha.p hb.p hc.p hm) fun σ H Q h => by
    obtain ⟨en, sc, hc, m, E, P, r, c, xo, fin⟩ := t_lift h
    exact ch_lift ⟨en, sc, hc, m, E, P, r, c, xo, fin⟩⟩
def cAnd (t u : CTx) : CTx := fun E sc hc P => t E sc hc fun b hc1 => if b = true then u E sc hc1 P else P false hc1
def cOr (t u : CTx) : CTx := fun E sc hc P => t E sc hc fun b hc1 => if b = true then P true hc1 else u E sc hc1 P
def cNot (t : CTx) : CTx := fun E sc hc P => t E sc hc fun b hc1 => P (!b) hc1
structure CW (X : Cx) (W : WX) (e : Expr) (c : CTx) : Prop where
  p : PW X e (LT X W c)
theorem pw_wk {X : Cx} {e : Expr} {t t' : TT} (h : PW X e t) (g : ∀ σ H Q, t' σ H Q → t σ H Q) : PW X e t' := ⟨fun wh pins s σ H Q I q => h.run wh pins s σ H Q I (g σ H Q q)⟩
theorem CW.t {e : Expr} {t : CTx} (h : CW X W e t) : CT X W e t := ⟨h.p.pt⟩
theorem and_lift {σ : L2.St} {H : Hp} {Q : Bool → Hp → Prop} (h : LT X W (cAnd ta tb) σ H Q) : tAnd (LT X W ta) (LT X W tb) σ H Q := by
  obtain ⟨en, sc, hc, m, E, P, r, c, xo, fin⟩ := h
  refine ⟨en, sc, hc, m, E, _, r, c, xo, fun b hc1 hp H1 m1 x1 => ?_⟩
  cases b with
  | true =>
    rw [if_pos rfl] at hp ⊢
    exact ⟨en, sc, hc1, m1, E, _, r.call x1, hp, xo, fun b2 hc2 hp2 H2 m2 x2 => fin b2 hc2 hp2 H2 m2 (x1.trans x2)⟩
  | false =>
    rw [if_neg Bool.false_ne_true] at hp ⊢
    exact fin _ hc1 hp H1 m1 x1
theorem or_lift {σ : L2.St} {H : Hp} {Q : Bool → Hp → Prop} (h : LT X W (cOr ta tb) σ H Q) : tOr (LT X W ta) (LT X W tb) σ H Q := by
  obtain ⟨en, sc, hc, m, E, P, r, c, xo, fin⟩ := h
  refine ⟨en, sc, hc, m, E, _, r, c, xo, fun b hc1 hp H1 m1 x1 => ?_⟩
  cases b with
  | true =>
    rw [if_pos rfl] at hp ⊢
    exact fin _ hc1 hp H1 m1 x1
  | false =>
    rw [if_neg Bool.false_ne_true] at hp ⊢
    exact ⟨en, sc, hc1, m1, E, _, r.call x1, hp, xo, fun b2 hc2 hp2 H2 m2 x2 => fin b2 hc2 hp2 H2 m2 (x1.trans x2)⟩
theorem cw_and1 (ha : CT X W a ta) : CW X W (.BoolOp .And [a] pos) ta := ⟨pw_and1 ha.p⟩
theorem cw_or1 (ha : CT X W a ta) : CW X W (.BoolOp .Or [a] pos) ta := ⟨pw_or1 ha.p⟩
theorem cw_and (ha : CT X W a ta) (hb : CW X W (.BoolOp .And (b :: rest) pos) tb) : CW X W (.BoolOp .And (a :: b :: rest) pos) (cAnd ta tb) := ⟨pw_wk (pw_and ha.p hb.p) fun _ _ _ h => and_lift h⟩
theorem cw_or (ha : CT X W a ta) (hb : CW X W (.BoolOp .Or (b :: rest) pos) tb) : CW X W (.BoolOp .Or (a :: b :: rest) pos) (cOr ta tb) := ⟨pw_wk (pw_or ha.p hb.p) fun _ _ _ h => or_lift h⟩
theorem ct_not (ha : CT X W a ta) : CT X W (.UnaryOp .Not a pos) (cNot ta) := ⟨pt_wk (pt_not ha.p) fun σ H Q ⟨en, sc, hc, m, E, P, r, c, xo, fin⟩ => ⟨en, sc, hc, m, E, _, r, c, xo, fun b hc1 hp H1 m1 x1 => fin _ hc1 hp H1 m1 x1⟩⟩
/-- as values: all but the last are bools -/
def cAndV (ca cb : CEx) : CEx := fun E sc hc P => ca E sc hc fun d hc1 => match d with | .bl true => cb E sc hc1 P | .bl false => P (.bl false) hc1 | _ => False
def cOrV (ca cb : CEx) : CEx := fun E sc hc P => ca E sc hc fun d hc1 => match d with | .bl true => P (.bl true) hc1 | .bl false => cb E sc hc1 P | _ => False
def cNotV (ca : CEx) : CEx := fun E sc hc P => ca E sc hc fun d hc1 => match d with | .bl b => P (.bl (!b)) hc1 | _ => False
theorem ce_one {op : BoolOp} (h : CE X W a ca) : CE X W (.BoolOp op [a] pos) ca := ⟨pe_one h.p⟩
theorem ce_and (ha : CE X W a ca) (hb : CE X W (.BoolOp .And (b :: rest) pos) cb) : CE X W (.BoolOp .And (a :: b :: rest) pos) (cAndV ca cb) := ⟨pe_wk (pe_and ha.p hb.p) fun σ H Q h => by
  obtain ⟨en, sc, hc, m, E, P, r, c, xo, fin⟩ := h
  refine ⟨en, sc, hc, m, E, _, r, c, xo, fun d hc1 hp v H1 m1 x1 q => ?_⟩
  cases d <;> try exact hp.elim
  rename_i k
  unfold Rep at q
  refine ⟨k, q, ?_⟩
  cases k with
  | true =>
    rw [if_pos rfl]
    exact ⟨en, sc, hc1, m1, E, _, r.call x1, hp, xo, fun d2 hc2 hp2 v2 H2 m2 x2 q2 => fin d2 hc2 hp2 v2 H2 m2 (x1.trans x2) q2⟩
  | false =>
    rw [if_neg Bool.false_ne_true]
    exact fin _ hc1 hp _ H1 m1 x1 rep_bl⟩
theorem ce_or (ha : CE X W a ca) (hb : CE X W (.BoolOp .Or (b :: rest) pos) cb) : CE X W (.BoolOp .Or (a :: b :: rest) pos) (cOrV ca cb) := ⟨pe_wk (pe_or ha.p hb.p) fun σ H Q h => by
  obtain ⟨en, sc, hc, m, E, P, r, c, xo, fin⟩ := h
  refine ⟨en, sc, hc, m, E, _, r, c, xo, fun d hc1 hp v H1 m1 x1 q => ?_⟩
  cases d <;> try exact hp.elim
  rename_i k
  unfold Rep at q
  refine ⟨k, q, ?_⟩
  cases k with
  | false =>
    rw [if_neg Bool.false_ne_true]
    exact ⟨en, sc, hc1, m1, E, _, r.call x1, hp, xo, fun d2 hc2 hp2 v2 H2 m2 x2 q2 => fin d2 hc2 hp2 v2 H2 m2 (x1.trans x2) q2⟩
  | true =>
    rw [if_pos rfl]
    exact fin _ hc1 hp _ H1 m1 x1 rep_bl⟩
theorem ce_not (ha : CE X W a ca) : CE X W (.UnaryOp .Not a pos) (cNotV ca) := ⟨pe_wk (pe_not ha.p) fun σ H Q h => by
  obtain ⟨en, sc, hc, m, E, P, r, c, xo, fin⟩ := h
  refine ⟨en, sc, hc, m, E, _, r, c, xo, fun d hc1 hp v H1 m1 x1 q => ?_⟩
  cases d <;> try exact hp.elim
  unfold Rep at q
  exact ⟨_, q, fin _ hc1 hp _ H1 m1 x1 rep_bl⟩⟩
def cIf (t : CTx) (ca cb : CEx) : CEx := fun E sc hc P => t E sc hc fun b hc1 => if b = true then ca E sc hc1 P else cb E sc hc1 P
theorem ce_if (hc : CT X W c ta) (ha : CE X W a ca) (hb : CE X W b cb) : CE X W (.IfExp c a b pos) (cIf ta ca cb) := ⟨pe_wk (pe_ifExp hc.p ha.p hb.p) fun σ H Q h => by
  obtain ⟨en, sc, hc, m, E, P, r, c, xo, fin⟩ := h
  refine ⟨en, sc, hc, m, E, _, r, c, xo, fun k hc1 hp H1 m1 x1 => ?_⟩
  cases k with
  | true =>
    rw [if_pos rfl] at hp ⊢
    exact ⟨en, sc, hc1, m1, E, _, r.call x1, hp, xo, fun d2 hc2 hp2 v2 H2 m2 x2 q2 => fin d2 hc2 hp2 v2 H2 m2 (x1.trans x2) q2⟩
  | false =>
    rw [if_neg Bool.false_ne_true] at hp ⊢
    exact ⟨en, sc, hc1, m1, E, _, r.call x1, hp, xo, fun d2 hc2 hp2 v2 H2 m2 x2 q2 => fin d2 hc2 hp2 v2 H2 m2 (x1.trans x2) q2⟩⟩
end
end Mn

namespace Mn
open PySem PySem.Spec PyProof.Rows L2
/-! ### arguments -/
abbrev RepBL (K : PySem.W.Frag) (σ : L2.St) (sc : List Sl) (H : Hp) (m : Ms) : List D → List V → Prop := Paired (RepB K σ sc H m)
abbrev RepWL (K : PySem.W.Frag) (H : Hp) (m : Ms) : List D → List V → Prop := Paired (RepW K H m)
def LBA (X : Cx) (W : WX) (c : CAx) : TA := fun σ H Q => ∃ en sc hc m E P, Rs X.K en σ H sc hc m ∧ c E sc hc P ∧ XOk X W en E ∧
  ∀ ds hc', P ds hc' → ∀ vs H' m', Ex X.K ⟨H, hc, m⟩ H' hc' m' → RepBL X.K σ sc H' m' ds vs → Q vs H'
structure CBA (X : Cx) (W : WX) (es : List Expr) (c : CAx) : Prop where
  p : PA X es (LBA X W c)
def cNil : CAx := fun _ _ hc P => P [] hc
def cCons (ca : CEx) (cr : CAx) : CAx := fun E sc hc P => ca E sc hc fun d hc1 => cr E sc hc1 fun ds hc2 => P (d :: ds) hc2
section
variable {X : Cx} {W : WX} {a b e : Expr} {es : List Expr} {ca cb : CEx} {c : CAx} {pos : Pos}
theorem ca_nil : CA X W [] cNil := ⟨pa_wk pa_nil fun σ H Q ⟨en, sc, hc, m, E, P, r, k, xo, fin⟩ => fin _ hc k _ H m (.refl r.toWd) RepL.nil⟩
theorem ca_cons (ha : CE X W e ca) (hr : CA X W es c) (hs : starEach (e :: es) X.env = (false, eval e X.env) :: starEach es X.env := by rfl) : CA X W (e :: es) (cCons ca c) :=
  ⟨pa_wk (pa_cons ha.p hr.p hs) fun σ H Q ⟨en, sc, hc, m, E, P, r, k, xo, fin⟩ =>
    ⟨en, sc, hc, m, E, _, r, k, xo, fun d hc1 hp v H1 m1 x1 q1 => ⟨en, sc, hc1, m1, E, _, r.call x1, hp, xo, fun ds hc2 hp2 vs H2 m2 x2 q2 => fin _ hc2 hp2 _ H2 m2 (x1.trans x2) (RepL.cons (Rep.mono x1.mu x2.stp _ _ q1) q2)⟩⟩⟩
theorem RepBL.mono {K : PySem.W.Frag} {en : En} {σ : L2.St} {sc : List Sl} {H H' : Hp} {hc : CH} {m m' : Ms} (r : Rs K en σ H sc hc m) (s : Stp H m H' m') : ∀ {ds : List D} {vs : List V}, RepBL K σ sc H m ds vs → RepBL K σ sc H' m' ds vs
  | _, _, .nil => .nil
  | _, _, .cons h t => .cons (h.mono r s) (RepBL.mono r s t)
theorem RepBL.w {K : PySem.W.Frag} {en : En} {σ : L2.St} {sc : List Sl} {H : Hp} {hc : CH} {m : Ms} (r : Rs K en σ H sc hc m) : ∀ {ds : List D} {vs : List V}, RepBL K σ sc H m ds vs → RepWL K H m ds vs
  | _, _, .nil => .nil
  | _, _, .cons h t => .cons (h.w r) (RepBL.w r t)
theorem cba_nil : CBA X W [] cNil := ⟨pa_wk pa_nil fun σ H Q ⟨en, sc, hc, m, E, P, r, k, xo, fin⟩ => fin _ hc k _ H m (.refl r.toWd) .nil⟩
theorem cba_cons (ha : CB X W e ca) (hr : CBA X W es c) (hs : starEach (e :: es) X.env = (false, eval e X.env) :: starEach es X.env := by rfl) : CBA X W (e :: es) (cCons ca c) :=
  ⟨pa_wk (pa_cons ha.p hr.p hs) fun σ H Q ⟨en, sc, hc, m, E, P, r, k, xo, fin⟩ =>
    ⟨en, sc, hc, m, E, _, r, k, xo, fun d hc1 hp v H1 m1 x1 q1 => ⟨en, sc, hc1, m1, E, _, r.call x1, hp, xo, fun ds hc2 hp2 vs H2 m2 x2 q2 => fin _ hc2 hp2 _ H2 m2 (x1.trans x2) (.cons (q1.mono (r.call x1) x2.stp) q2)⟩⟩⟩
/-- *e, a tuple or a list -/
def cStar (ca : CEx) (cr : CAx) : CAx := fun E sc hc P => ca E sc hc fun d hc1 => match d with
  | .tup xs => cr E sc hc1 fun ds hc2 => P (xs ++ ds) hc2
  | .lst xs => cr E sc hc1 fun ds hc2 => P (xs ++ ds) hc2
  | _ => False
theorem ca_star {p : Pos} (ha : CE X W e ca) (hr : CA X W es c) : CA X W (.Starred e p :: es) (cStar ca c) :=
  ⟨pa_wk (StX.pa_star ha.p hr.p) fun σ H Q ⟨en, sc, hc, m, E, P, r, k, xo, fin⟩ => by
    refine ⟨en, sc, hc, m, E, _, r, k, xo, fun d hc1 hp v H1 m1 x1 q1 => ?_⟩
    cases d <;> try exact hp.elim
    · unfold Rep at q1
      obtain ⟨p, vs, rfl, q, rl⟩ := q1
      exact ⟨p, vs, rfl, .inl q, en, sc, hc1, m1, E, _, r.call x1, hp, xo, fun ds hc2 hp2 ws H2 m2 x2 q2 => fin _ hc2 hp2 _ H2 m2 (x1.trans x2) ((RepL.mono x1.mu x2.stp _ _ rl).append q2)⟩
    · unfold Rep at q1
      obtain ⟨p, vs, rfl, _, q, rl⟩ := q1
      exact ⟨p, vs, rfl, .inr (.of q), en, sc, hc1, m1, E, _, r.call x1, hp, xo, fun ds hc2 hp2 ws H2 m2 x2 q2 => fin _ hc2 hp2 _ H2 m2 (x1.trans x2) ((RepL.mono x1.mu x2.stp _ _ rl).append q2)⟩⟩

/-! ### displays -/
def cTup (c : CAx) : CEx := fun E sc hc P => c E sc hc fun ds hc1 => ds.length ≤ sizeLine ∧ P (.tup ds) hc1
def cLst (c : CAx) : CEx := fun E sc hc P => c E sc hc fun ds hc1 => ds.length ≤ sizeLine ∧ P (.lst ds) hc1
def updc (hc : CH) (p : Addr) (ds : List D) : CH := fun q => if q = p then some ds else hc q
/-- a list that will be changed -/
def cLstM (c : CAx) : CEx := fun E sc hc P => c E sc hc fun ds hc1 => ds.length ≤ sizeLine ∧ ∀ p, hc1 p = none → P (.ref p) (updc hc1 p ds)
theorem ce_tup {x1 : Nat} (h : CA X W es c) : CE X W (.Tuple es x1 pos) (cTup c) :=
  ⟨pe_wk (pe_tup h.p) fun σ H Q ⟨en, sc, hc, m, E, P, r, k, xo, fin⟩ => ⟨en, sc, hc, m, E, _, r, k, xo, fun ds hc1 hp vs H1 m1 x1 q1 =>
    ⟨by rw [← q1.length]; exact hp.1, fun p n => fin _ hc1 hp.2 _ _ m1 (x1.trans (Ex.same x1.toWd (same_upd n))) (rep_tup x1.mu n q1)⟩⟩⟩
theorem ce_lst (h : CA X W es c) : CE X W (.List es pos) (cLst c) :=
  ⟨pe_wk (pe_lst h.p) fun σ H Q ⟨en, sc, hc, m, E, P, r, k, xo, fin⟩ => ⟨en, sc, hc, m, E, _, r, k, xo, fun ds hc1 hp vs H1 m1 x1 q1 =>
    ⟨by rw [← q1.length]; exact hp.1, fun p n => fin _ hc1 hp.2 _ _ m1 (x1.trans (Ex.same x1.toWd (same_upd n))) (rep_lst x1.mu n q1)⟩⟩⟩
theorem wd_new {K : PySem.W.Frag} {H : Hp} {hc : CH} {m : Ms} {p : Addr} {ds : List D} {vs : List V} (w : Wd K H hc m) (n : H p = none) (q : RepL K H m ds vs) : Ex K ⟨H, hc, m⟩ (upd H p (.lst vs)) (updc hc p ds) (fun a => m a ∨ a = p) := by
  have st : Stp H m (upd H p (.lst vs)) (fun a => m a ∨ a = p) := ⟨fun a o e _ _ => same_upd n a o e, fun a z => z.elim .inl fun e => .inr (by rw [e]; exact n), fun a o e => by rw [same_upd n a o e]; simp⟩
  refine ⟨⟨tabs_put w.tab (.inl n), fun a z => ?_, fun a es e => ?_, fun a es e => ?_⟩, w.mu, w.hm, fun a o e _ _ => same_upd n a o e, st.grow, fun a z _ => .inl z, fun a es e => ?_, fun a o e => by rw [same_upd n a o e]; simp⟩
  · rcases z with z | rfl
    · obtain ⟨ws, e⟩ := w.mu a z
      exact ⟨ws, same_upd n _ _ e⟩
    · exact ⟨vs, upd_same⟩
  · unfold updc at e
    by_cases h : a = p
    · exact .inr h
    · rw [if_neg h] at e
      exact .inl (w.hm a es e)
  · unfold updc at e
    by_cases h : a = p
    · rw [if_pos h] at e
      cases e
      subst h
      exact ⟨vs, upd_same, RepL.mono w.mu st _ _ q⟩
    · rw [if_neg h] at e
      obtain ⟨ws, e1, q1⟩ := w.heap a es e
      exact ⟨ws, same_upd n _ _ e1, RepL.mono w.mu st _ _ q1⟩
  · unfold updc at e
    by_cases h : a = p
    · rw [h]; exact .inr n
    · rw [if_neg h] at e
      exact .inl (by show hc a ≠ none; rw [e]; simp)
theorem hc_none {K : PySem.W.Frag} {H : Hp} {hc : CH} {m : Ms} {p : Addr} (w : Wd K H hc m) (n : H p = none) : hc p = none := by
  cases e : hc p with
  | none => rfl
  | some ds =>
    obtain ⟨vs, e1, _⟩ := w.heap p ds e
    rw [n] at e1; cases e1
theorem rep_ref {K : PySem.W.Frag} {H : Hp} {m : Ms} {p : Addr} : Rep K H m (.ref p) (.ref p) := by unfold Rep; rfl
theorem ce_lstM (h : CA X W es c) : CE X W (.List es pos) (cLstM c) :=
  ⟨pe_wk (pe_lst h.p) fun σ H Q ⟨en, sc, hc, m, E, P, r, k, xo, fin⟩ => ⟨en, sc, hc, m, E, _, r, k, xo, fun ds hc1 hp vs H1 m1 x1 q1 =>
    ⟨by rw [← q1.length]; exact hp.1, fun p n => by
      have x := wd_new x1.toWd n q1
      exact fin _ _ (hp.2 p (hc_none x1.toWd n)) _ _ _ (x1.trans x) rep_ref⟩⟩⟩

/-! ### subscripts, slices -/
abbrev atD (xs : List D) (i : Int) (P : D → Prop) : Prop := oth (atI xs i) P
def ixD : O2
  | .lst xs, .int i, _, P => atD xs i P
  | .tup xs, .int i, _, P => atD xs i P
  | .str z, .int i, _, P => z.length ≤ sizeLine ∧ oth (atI z.cps.toList i) fun c => P (.str ⟨#[c]⟩)
  | .ref a, .int i, hc, P => oth (hc a) fun xs => oth (atI xs i) P
  | _, _, _, _ => False
theorem atD_get {K : PySem.W.Frag} {H : Hp} {m : Ms} {xs : List D} {vs : List V} {i : Int} {P : D → Prop} (r : RepL K H m xs vs) (h : atD xs i P) : ∃ d v, P d ∧ atI vs i = some v ∧ Rep K H m d v := by
  obtain ⟨d, e, h⟩ := oth_of h
  unfold atI at e
  cases e1 : ixN xs.length i with
  | none => rw [e1] at e; cases e
  | some j =>
    rw [e1] at e
    obtain ⟨v, e2, q⟩ := r.get (i := j) (d := d) e
    refine ⟨d, v, h, ?_, q⟩
    unfold atI
    rw [← r.length, e1]
    exact e2
theorem ix_D : IxR X (LV2 X.K ixD) := by
  intro value slice pins s σ H x y v u Q I rx ry h hs
  obtain ⟨hc, m, dx, dy, P, w, h1, h2, f, fin⟩ := h
  cases dx <;> cases dy <;> try exact f.elim
  · unfold RepW Rep at h1 h2
    subst h1; subst h2
    obtain ⟨hz, f⟩ := f
    obtain ⟨c, e, f⟩ := oth_of f
    exact ix_str value slice pins s σ H _ _ v u Q I rx ry ⟨_, _, c, rfl, rfl, hz, e, fin _ f _ _ (.refl H) rep_str⟩ hs
  · unfold RepW Rep at h1 h2
    obtain ⟨p, vs, rfl, q, r⟩ := h1
    subst h2
    obtain ⟨d, z, pd, e, rz⟩ := atD_get r f
    exact ix_tup value slice pins s σ H _ _ v u Q I rx ry ⟨p, vs, _, z, rfl, rfl, q, e, fin _ pd _ _ (.refl H) rz⟩ hs
  · unfold RepW at h1 h2
    unfold Rep at h2
    obtain ⟨p, vs, rfl, q, r⟩ := h1
    subst h2
    obtain ⟨d, z, pd, e, rz⟩ := atD_get r f
    exact ix_list value slice pins s σ H _ _ v u Q I rx ry ⟨p, vs, _, z, rfl, rfl, .of q, e, fin _ pd _ _ (.refl H) rz⟩ hs
  · unfold RepW Rep at h1 h2
    subst h1; subst h2
    obtain ⟨xs, e0, f'⟩ := oth_of f
    obtain ⟨vs, q, r⟩ := w.heap _ _ e0
    obtain ⟨d, z, pd, e, rz⟩ := atD_get r f'
    exact ix_list value slice pins s σ H _ _ v u Q I rx ry ⟨_, vs, _, z, rfl, rfl, .of q, e, fin _ pd _ _ (.refl H) rz⟩ hs
theorem ce_ix (ha : CB X W a ca) (hb : CE X W b cb) (hs : PlainIx b := by first | exact fun _ _ => rfl) : CE X W (.Subscript a b pos) (cOp ixD ca cb) := ⟨pe_wk (pe_ix ix_D ha.p hb.bo.p hs) fun σ H Q h => op_lift h⟩
/-- a part of a slice -/
abbrev COx := XP → List Sl → CH → (Option Int → CH → Prop) → Prop
def LO (X : Cx) (W : WX) (c : COx) : TO := fun σ H Q => ∃ en sc hc m E P, Rs X.K en σ H sc hc m ∧ c E sc hc P ∧ XOk X W en E ∧
  ∀ i hc', P i hc' → ∀ H' m', Ex X.K ⟨H, hc, m⟩ H' hc' m' → Q i H'
structure CO (X : Cx) (W : WX) (e : Option Expr) (c : COx) : Prop where
  p : PO X e (LO X W c)
theorem po_wk {X : Cx} {e : Option Expr} {t t' : TO} (h : PO X e t) (g : ∀ σ H Q, t' σ H Q → t σ H Q) : PO X e t' := ⟨fun pins s σ H Q I q => h.run pins s σ H Q I (g σ H Q q)⟩
def cNoP : COx := fun _ _ hc P => P none hc
def cSoP (c : CEx) : COx := fun E sc hc P => c E sc hc fun d hc1 => match d with | .int i => P (some i) hc1 | _ => False
theorem co_none : CO X W none cNoP := ⟨po_wk po_none fun σ H Q ⟨en, sc, hc, m, E, P, r, k, xo, fin⟩ => fin _ hc k H m (.refl r.toWd)⟩
theorem co_some (h : CE X W e ca) : CO X W (some e) (cSoP ca) := ⟨po_wk (po_some h.p) fun σ H Q ⟨en, sc, hc, m, E, P, r, k, xo, fin⟩ =>
  ⟨en, sc, hc, m, E, _, r, k, xo, fun d hc1 hp v H1 m1 x1 q1 => by
    cases d <;> try exact hp.elim
    unfold Rep at q1
    exact ⟨_, q1, fin _ hc1 hp H1 m1 x1⟩⟩⟩
def cutX {α : Type} (xs : List α) (lo hi : Option Int) : List α := (xs.drop (HT.sIx xs.length 0 lo)).take (HT.sIx xs.length xs.length hi - HT.sIx xs.length 0 lo)
theorem RepL.cut {K : PySem.W.Frag} {H : Hp} {m : Ms} {ds : List D} {vs : List V} (h : RepL K H m ds vs) (lo hi : Option Int) : RepL K H m (cutX ds lo hi) (cutV vs lo hi) := by
  unfold cutX cutV
  rw [h.length]
  exact (h.drop _).take _
def slD (x : D) (lo hi : Option Int) (hc : CH) (P : D → Prop) : Prop := match x with
  | .lst xs => P (.lst (cutX xs lo hi))
  | .frz xs => P (.lst (cutX xs lo hi))
  | .tup xs => P (.tup (cutX xs lo hi))
  | .str z => z.length ≤ sizeLine ∧ P (.str (cutS z lo hi))
  | .ref a => oth (hc a) fun xs => P (.lst (cutX xs lo hi))
  | _ => False
def LVS (K : PySem.W.Frag) : V → Option Int → Option Int → Hp → VK → Prop := fun x lo hi H Q => ∃ hc m dx P, Wd K H hc m ∧ RepW K H m dx x ∧ slD dx lo hi hc P ∧ ∀ d, P d → ∀ v H', Same H H' → Rep K H' m d v → Q v H'
theorem cutX_all {α : Type} {xs : List α} {lo hi : Option Int} (h : HT.sIx xs.length 0 lo = 0 ∧ HT.sIx xs.length xs.length hi = xs.length) : cutX xs lo hi = xs := by
  unfold cutX
  rw [h.1, h.2]
  simp
theorem sl_D : SlR X (LVS X.K) := by
  intro pins s σ H x v vl vu lo hi sl Q I rx hs pl pu h
  obtain ⟨hc, m, dx, P, w, h1, f, fin⟩ := h
  cases dx <;> try exact f.elim
  · unfold RepW Rep at h1
    subst h1
    exact sl_str pins s σ H _ v vl vu lo hi sl Q I rx hs pl pu ⟨_, rfl, f.1, fin _ f.2 _ _ (.refl H) rep_str⟩
  · rename_i xs
    unfold RepW Rep at h1
    obtain ⟨p, vs, rfl, q, r⟩ := h1
    refine sl_tupA pins s σ H _ v vl vu lo hi sl Q I rx hs pl pu ⟨p, vs, rfl, q, fun z => fin _ f _ _ (.refl H) ?_, fun _ a n => fin _ f _ _ (same_upd n) (rep_tup w.mu n (r.cut lo hi))⟩
    have l := r.length
    rw [cutX_all (by rw [l]; exact z)]
    unfold Rep
    exact ⟨p, vs, rfl, q, r⟩
  · unfold RepW at h1
    obtain ⟨p, vs, rfl, q, r⟩ := h1
    exact sl_list pins s σ H _ v vl vu lo hi sl Q I rx hs pl pu ⟨p, vs, rfl, .of q, fun a n => fin _ f _ _ (same_upd n) (rep_lst w.mu n (r.cut lo hi))⟩
  · unfold RepW Rep at h1
    subst h1
    obtain ⟨xs, e0, f'⟩ := oth_of f
    obtain ⟨vs, q, r⟩ := w.heap _ _ e0
    exact sl_list pins s σ H _ v vl vu lo hi sl Q I rx hs pl pu ⟨_, vs, rfl, .of q, fun a n => fin _ f' _ _ (same_upd n) (rep_lst w.mu n (r.cut lo hi))⟩
  · unfold RepW Rep at h1
    obtain ⟨p, vs, rfl, q, r⟩ := h1
    exact sl_list pins s σ H _ v vl vu lo hi sl Q I rx hs pl pu ⟨p, vs, rfl, q.sq, fun a n => fin _ f _ _ (same_upd n) (rep_lst w.mu n (r.cut lo hi))⟩
def cSl (ca : CEx) (cl ch : COx) : CEx := fun E sc hc P => ca E sc hc fun x hc1 => cl E sc hc1 fun l hc2 => ch E sc hc2 fun u hc3 => slD x l u hc3 fun d => P d hc3
theorem ce_sl {lo hi : Option Expr} {cl ch : COx} {p2 : Pos} (ha : CB X W a ca) (hl : CO X W lo cl) (hu : CO X W hi ch) : CE X W (.Subscript a (.Slice lo hi none p2) pos) (cSl ca cl ch) :=
  ⟨pe_wk (pe_slice sl_D ha.p hl.p hu.p) fun σ H Q ⟨en, sc, hc, m, E, P, r, k, xo, fin⟩ =>
    ⟨en, sc, hc, m, E, _, r, k, xo, fun x hc1 hp v H1 m1 x1 q1 => ⟨en, sc, hc1, m1, E, _, r.call x1, hp, xo, fun l hc2 hp2 H2 m2 x2 => ⟨en, sc, hc2, m2, E, _, (r.call x1).call x2, hp2, xo, fun u hc3 hp3 H3 m3 x3 =>
      ⟨hc3, m3, x, _, x3.toWd, ((q1.mono (r.call x1) x2.stp).mono ((r.call x1).call x2) x3.stp).w (((r.call x1).call x2).call x3), hp3, fun d pd v' H' sm q => fin d hc3 pd v' H' m3 (x1.trans (x2.trans (x3.trans (Ex.same x3.toWd sm)))) q⟩⟩⟩⟩⟩

/-! ### calls -/
def LVn (K : PySem.W.Frag) (f : On) : List V → Hp → VK → Prop := fun xs H Q => ∃ hc m ds P, Wd K H hc m ∧ RepWL K H m ds xs ∧ f ds hc P ∧ ∀ d, P d → ∀ v H', Same H H' → Rep K H' m d v → Q v H'
def cFn (f : On) (c : CAx) : CEx := fun E sc hc P => c E sc hc fun ds hc1 => f ds hc1 fun d => P d hc1
theorem fn_lift {f : On} {σ : L2.St} {H : Hp} {Q : VK} (h : LE X W (cFn f c) σ H Q) : LBA X W c σ H fun xs H1 => LVn X.K f xs H1 Q := by
  obtain ⟨en, sc, hc, m, E, P, r, k, xo, fin⟩ := h
  exact ⟨en, sc, hc, m, E, _, r, k, xo, fun ds hc1 hp vs H1 m1 x1 q1 => ⟨hc1, m1, ds, _, x1.toWd, q1.w (r.call x1), hp, fun d pd v' H' sm q => fin d hc1 pd v' H' m1 (x1.trans (Ex.same x1.toWd sm)) q⟩⟩
theorem ce_bf {x : Str} {id : String} {f : On} {p : Pos} (hc : CallR X (.builtin id) (LVn X.K f)) (hm : X.mg x = none) (ha : CBA X W (e :: es) c) (hg : Gl X x := by rfl) (hv : bootBuiltins x = some (.builtin id) := by decide +kernel) (hn : x ≠ "__name__" := by decide) (hdb : (x == ("__debug__" : Str)) = false := by decide)
    (he : starEach (e :: es) X.env = (false, eval e X.env) :: starEach es X.env := by rfl) (hpl : (backTo pos (starEach es X.env)).any (·.1) = false := by rfl) : CE X W (.Call (.Name x p) (e :: es) [] pos) (cFn f c) :=
  ⟨pe_wk (pe_callB hc hg hm hv ha.p hn hdb he hpl) fun σ H Q h => fn_lift h⟩
theorem ce_bt {x : Str} {id : String} {f : On} {p : Pos} (hc : CallR X (.type id) (LVn X.K f)) (hm : X.mg x = none) (ha : CBA X W (e :: es) c) (hg : Gl X x := by rfl) (hv : bootBuiltins x = some (.type id) := by decide +kernel) (hn : x ≠ "__name__" := by decide) (hdb : (x == ("__debug__" : Str)) = false := by decide)
    (he : starEach (e :: es) X.env = (false, eval e X.env) :: starEach es X.env := by rfl) (hpl : (backTo pos (starEach es X.env)).any (·.1) = false := by rfl) : CE X W (.Call (.Name x p) (e :: es) [] pos) (cFn f c) :=
  ⟨pe_wk (pe_callTy hc hg hm hv ha.p hn hdb he hpl) fun σ H Q h => fn_lift h⟩

/-- a def's promise in clean words -/
abbrev Spc := List D → CH → (D → CH → Prop) → (Exn → CH → Prop) → Prop
def RepXK (K : PySem.W.Frag) (mg : Str → Option Value) (H : Hp) (m : Ms) (x : Exn) (cls : Value) (d : Option Addr) : Prop :=
  mg x.cls = some cls ∧ ((x.fs = [] ∧ d = none) ∨ ∃ dx fs, d = some dx ∧ H dx = some (.xd fs) ∧ fs.map (·.1) = x.fs.map (·.1) ∧ RepL K H m (x.fs.map (·.2)) (fs.map (·.2)))
def toSp (K : PySem.W.Frag) (mg : Str → Option Value) (sp : Spc) : Sp := fun vs H Q E => ∃ hc m ds P PE, Wd K H hc m ∧ RepL K H m ds vs ∧ sp ds hc P PE ∧
  (∀ d hc', P d hc' → ∀ v H' m', Ex K ⟨H, hc, m⟩ H' hc' m' → Rep K H' m' d v → Q v H') ∧
  (∀ x hc', PE x hc' → ∀ cls dx H' m', Ex K ⟨H, hc, m⟩ H' hc' m' → RepXK K mg H' m' x cls dx → E cls dx H')
def cCall (sp : Spc) (c : CAx) : CEx := fun E sc hc P => c E sc hc fun ds hc1 => sp ds hc1 P fun x hc2 => E x sc hc2
theorem ce_call {x : Str} {p : Pos} {k : Nat} {f : Addr} {fd : FuncData} {ps : List Str} {sp : Spc} (F : FnG X.prog X.w X.K X.mg X.base (L2.CX X.prog X.w) k f fd ps (toSp X.K X.mg sp)) (hr : RT k X W) (hm : X.mg x = some (.ref f)) (hk : PySem.W.keepIn X.K (.ref f) = true) (hb : Binds X.K fd ps [])
    (ha : CA X W (e :: es) c) (hg : Gl X x := by rfl) (hdb : (x == ("__debug__" : Str)) = false := by decide) (he : starEach (e :: es) X.env = (false, eval e X.env) :: starEach es X.env := by rfl) (hpl : (backTo pos (starEach es X.env)).any (·.1) = false := by rfl) : CE X W (.Call (.Name x p) (e :: es) [] pos) (cCall sp c) :=
  ⟨pe_wk (pe_callX F hr hg hm hk hb .nil ha.p hdb he hpl) fun σ H Q ⟨en, sc, hc, m, E, P, r, k, xo, fin⟩ =>
    ⟨en, sc, hc, m, E, _, r, k, xo, fun ds hc1 hp vs H1 m1 x1 q1 => by
      show toSp X.K X.mg sp (vs ++ []) H1 Q _
      rw [List.append_nil]
      exact ⟨hc1, m1, ds, P, _, x1.toWd, q1, hp, fun d hc' pd v H' m' x q => fin d hc' pd v H' m' (x1.trans x) q, fun y hc' py cls dx H' m' x q => xo y sc hc' py cls dx σ H' m' (r.call (x1.trans x)) q⟩⟩⟩
end
end Mn

namespace Mn
open PySem PySem.Spec PyProof.Rows L2
/-- what is wanted behind a statement -/
structure CEnds where
  nx : List Sl → CH → Prop
  rt : D → CH → Prop
  bk : List Sl → CH → Prop := fun _ _ => False
  ct : List Sl → CH → Prop := fun _ _ => False
  xp : XP := fun _ _ _ => False
abbrev CSx := CEnds → List Sl → CH → Prop
abbrev Goes (X : Cx) (en : En) (H : Hp) (m : Ms) (P : List Sl → CH → Prop) (Q : L2.St → Hp → Prop) : Prop :=
  ∀ sc' hc', P sc' hc' → ∀ σ' H' m', Rs X.K en σ' H' sc' hc' m' → Stp H m H' m' → Q σ' H'
structure EndOk (X : Cx) (W : WX) (en : En) (H : Hp) (m : Ms) (C : CEnds) (D : Ends) : Prop where
  nx : Goes X en H m C.nx D.nx
  bk : Goes X en H m C.bk D.bk
  ct : Goes X en H m C.ct D.ct
  rt : ∀ d hc', C.rt d hc' → ∀ v H' m', Ex X.K en H' hc' m' → Rep X.K H' m' d v → D.rt v H'
  xp : XOk X W en C.xp
theorem Goes.step {X : Cx} {en : En} {H H1 : Hp} {m m1 : Ms} {P : List Sl → CH → Prop} {Q : L2.St → Hp → Prop} (g : Goes X en H m P Q) (s : Stp H m H1 m1) : Goes X en H1 m1 P Q := fun sc' hc' p σ' H' m' r s' => g sc' hc' p σ' H' m' r (s.trans s')
theorem EndOk.step {X : Cx} {W : WX} {en : En} {H H1 : Hp} {m m1 : Ms} {C : CEnds} {D : Ends} (g : EndOk X W en H m C D) (s : Stp H m H1 m1) : EndOk X W en H1 m1 C D := ⟨g.nx.step s, g.bk.step s, g.ct.step s, g.rt, g.xp⟩
def LS (X : Cx) (W : WX) (c : CSx) : TS := fun D σ H => ∃ en sc hc m C, Rs X.K en σ H sc hc m ∧ c C sc hc ∧ EndOk X W en H m C D
structure CS (X : Cx) (W : WX) (st : Stmt) (c : CSx) : Prop where
  p : PS X st (LS X W c)
structure CSs (X : Cx) (W : WX) (st : List Stmt) (c : CSx) : Prop where
  p : PSs X st (LS X W c)
theorem ps_wk {X : Cx} {e : Stmt} {t t' : TS} (h : PS X e t) (g : ∀ D σ H, t' D σ H → t D σ H) : PS X e t' := ⟨fun pins s σ H Q I q => h.run pins s σ H Q I (g Q σ H q)⟩
theorem pss_wk {X : Cx} {e : List Stmt} {t t' : TS} (h : PSs X e t) (g : ∀ D σ H, t' D σ H → t D σ H) : PSs X e t' := ⟨fun pins s σ H Q I q => h.run pins s σ H Q I (g Q σ H q)⟩
section
variable {X : Cx} {W : WX} {st : Stmt} {rest body ob : List Stmt} {c c1 c2 : CSx} {e tg iter : Expr} {es : List Expr} {ce : CEx} {ct : CTx} {ca : CAx} {pos : Pos}
def cNext : CSx := fun C sc hc => C.nx sc hc
def cSeq (c1 c2 : CSx) : CSx := fun C sc hc => c1 { C with nx := fun sc1 hc1 => c2 C sc1 hc1 } sc hc
theorem css_nil : CSs X W [] cNext := ⟨pss_wk pss_nil fun D σ H ⟨en, sc, hc, m, C, r, k, f⟩ => f.nx sc hc k σ H m r .refl⟩
theorem css_cons (h1 : CS X W st c1) (h2 : CSs X W rest c2) : CSs X W (st :: rest) (cSeq c1 c2) := ⟨pss_wk (pss_cons h1.p h2.p) fun D σ H ⟨en, sc, hc, m, C, r, k, f⟩ =>
  ⟨en, sc, hc, m, _, r, k, fun sc' hc' p σ' H' m' r' s' => ⟨en, sc', hc', m', C, r', p, f.step s'⟩, f.bk, f.ct, f.rt, f.xp⟩⟩
theorem css_one (h1 : CS X W st c1) : CSs X W [st] c1 := ⟨pss_one h1.p⟩
theorem cs_pass : CS X W (.Pass pos) cNext := ⟨ps_wk ps_pass fun D σ H ⟨en, sc, hc, m, C, r, k, f⟩ => f.nx sc hc k σ H m r .refl⟩
def cBrk : CSx := fun C sc hc => C.bk sc hc
def cCnt : CSx := fun C sc hc => C.ct sc hc
theorem cs_break : CS X W (.Break pos) cBrk := ⟨ps_wk ps_break fun D σ H ⟨en, sc, hc, m, C, r, k, f⟩ => f.bk sc hc k σ H m r .refl⟩
theorem cs_continue : CS X W (.Continue pos) cCnt := ⟨ps_wk ps_continue fun D σ H ⟨en, sc, hc, m, C, r, k, f⟩ => f.ct sc hc k σ H m r .refl⟩
theorem cs_doc {x : Str} {j : Nat} {p2 : Pos} : CS X W (.Expr (.Constant (.str x) j p2) pos) cNext := ⟨ps_wk ps_doc fun D σ H ⟨en, sc, hc, m, C, r, k, f⟩ => f.nx sc hc k σ H m r .refl⟩
def cDrop (ce : CEx) : CSx := fun C sc hc => ce C.xp sc hc fun _ hc1 => C.nx sc hc1
theorem cs_expr (h : CE X W e ce) (hs : swapsWith e none pos.line X.env = pure false := by rfl) : CS X W (.Expr e pos) (cDrop ce) := ⟨ps_wk (ps_expr h.p hs) fun D σ H ⟨en, sc, hc, m, C, r, k, f⟩ =>
  ⟨en, sc, hc, m, C.xp, _, r, k, f.xp, fun d hc1 p v H1 m1 x1 _ => f.nx sc hc1 p σ H1 m1 (r.call x1) x1.stp⟩⟩
/-- the owned list of a slot given away -/
theorem Ex.drop {K : PySem.W.Frag} {en : En} {H : Hp} {hc : CH} {m : Ms} (x : Ex K en H hc m) {p : Addr} (h0 : en.H p = none) (h1 : hc p = none) : Ex K en H hc (fun a => m a ∧ a ≠ p) ∧ Stp H m H (fun a => m a ∧ a ≠ p) := by
  have st : Stp H m H (fun a => m a ∧ a ≠ p) := ⟨fun _ _ h _ _ => h, fun _ h => .inl h.1, fun p o h => by rw [h]; simp⟩
  refine ⟨⟨⟨x.tab, fun a z => x.mu a z.1, fun a ds e => ⟨x.hm a ds e, fun z => by rw [z, h1] at e; cases e⟩, fun a ds e => ?_⟩, x.emut, x.ehm, x.keep, fun a z => x.grow a z.1, fun a z n => ⟨x.hold a z n, fun y => ?_⟩, x.hgrow, x.live⟩, st⟩
  · obtain ⟨vs, e1, q⟩ := x.heap a ds e
    exact ⟨vs, e1, RepL.mono x.mu st _ _ q⟩
  · obtain ⟨vs, e⟩ := x.emut a z
    rw [y, h0] at e; cases e
def cRet (ce : CEx) : CSx := fun C sc hc => ce C.xp sc hc fun d hc1 => C.rt d hc1
theorem cs_ret (h : CB X W e ce) : CS X W (.Return (some e) pos) (cRet ce) := ⟨ps_wk (ps_ret h.p) fun D σ H ⟨en, sc, hc, m, C, r, k, f⟩ =>
  ⟨en, sc, hc, m, C.xp, _, r, k, f.xp, fun d hc1 p v H1 m1 x1 q => by
    have r1 := r.call x1
    rcases q with q | ⟨i, ds, e1, rfl, e2⟩
    · exact f.rt d hc1 p v H1 m1 r1.toEx q
    · obtain ⟨a, vs, e3, ma, h0, h1, e4, q⟩ := r1.own i ds e1
      rw [e2] at e3
      cases e3
      obtain ⟨x, st⟩ := r1.toEx.drop h0 h1
      refine f.rt _ hc1 p _ H1 _ x ?_
      unfold Rep
      exact ⟨a, vs, rfl, fun z => z.2 rfl, e4, RepL.mono r1.mu st _ _ q⟩⟩⟩
def cRetN : CSx := fun C _ hc => C.rt .non hc
theorem cs_retN : CS X W (.Return none pos) cRetN := ⟨ps_wk ps_retN fun D σ H ⟨en, sc, hc, m, C, r, k, f⟩ => f.rt _ hc k _ H m r.toEx rep_non⟩
def cIfS (t : CTx) (c1 c2 : CSx) : CSx := fun C sc hc => t C.xp sc hc fun b hc1 => if b = true then c1 C sc hc1 else c2 C sc hc1
theorem cs_if (ht : CT X W e ct) (h1 : CSs X W body c1) (h2 : CSs X W ob c2) : CS X W (.If e body ob pos) (cIfS ct c1 c2) := ⟨ps_wk (ps_if ht.p h1.p h2.p) fun D σ H ⟨en, sc, hc, m, C, r, k, f⟩ =>
  ⟨en, sc, hc, m, C.xp, _, r, k, f.xp, fun b hc1 p H1 m1 x1 => by
    have r1 := r.call x1
    have s1 := x1.stp
    cases b with
    | true =>
      rw [if_pos rfl] at p
      exact iteT ⟨en, sc, hc1, m1, C, r1, p, f.step s1⟩
    | false =>
      rw [if_neg Bool.false_ne_true] at p
      exact iteF ⟨en, sc, hc1, m1, C, r1, p, f.step s1⟩⟩⟩

/-! ### targets -/
abbrev CGx := XP → D → List Sl → CH → (List Sl → CH → Prop) → Prop
def LG (X : Cx) (W : WX) (g : CGx) : TG := fun v σ H Q => ∃ en sc hc m E d P, Rs X.K en σ H sc hc m ∧ Rep X.K H m d v ∧ g E d sc hc P ∧ XOk X W en E ∧ Goes X en H m P Q
structure CG (X : Cx) (W : WX) (e : Expr) (g : CGx) : Prop where
  p : PG X e (LG X W g)
abbrev CGsx := XP → List D → List Sl → CH → (List Sl → CH → Prop) → Prop
def LGs (X : Cx) (W : WX) (g : CGsx) : TGs := fun vs σ H Q => ∃ en sc hc m E ds P, Rs X.K en σ H sc hc m ∧ RepL X.K H m ds vs ∧ g E ds sc hc P ∧ XOk X W en E ∧ Goes X en H m P Q
structure CGs (X : Cx) (W : WX) (es : List Expr) (g : CGsx) : Prop where
  p : PGs X es (LGs X W g)
theorem pg_wk {X : Cx} {e : Expr} {t t' : TG} (h : PG X e t) (g : ∀ v σ H Q, t' v σ H Q → t v σ H Q) : PG X e t' := ⟨fun pins s σ H v u Q I r q => h.run pins s σ H v u Q I r (g v σ H Q q)⟩
theorem pgs_wk {X : Cx} {e : List Expr} {t t' : TGs} (h : PGs X e t) (g : ∀ v σ H Q, t' v σ H Q → t v σ H Q) : PGs X e t' := ⟨fun pins s σ H v u Q I r q => h.run pins s σ H v u Q I r (g v σ H Q q)⟩
theorem Rs.put {K : PySem.W.Frag} {en : En} {σ : L2.St} {H : Hp} {sc : List Sl} {hc : CH} {m : Ms} (r : Rs K en σ H sc hc m) (i : Nat) {d : D} {v : V} (q : Rep K H m d v) : Rs K en (σ.set i (some v)) H (sc.set i (.val d)) hc m := by
  have ne : ∀ (j : Nat) (ds : List D), (sc.set i (.val d))[j]? = some (Sl.own ds) → j ≠ i ∧ sc[j]? = some (Sl.own ds) := fun j ds e => by
    by_cases h : i = j
    · subst h
      by_cases l : i < sc.length
      · rw [List.getElem?_set_self l] at e; cases e
      · rw [List.getElem?_eq_none (by rw [List.length_set]; omega)] at e; cases e
    · rw [List.getElem?_set_ne h] at e
      exact ⟨fun z => h z.symm, e⟩
  refine ⟨r.toEx, fun j d' e => ?_, fun j ds e => ?_, fun j l ds es p e1 e2 e3 e4 => ?_, by rw [List.length_set, List.length_set]; exact r.len⟩
  · by_cases h : i = j
    · subst h
      by_cases l : i < sc.length
      · rw [List.getElem?_set_self l] at e; cases e
        exact ⟨v, List.getElem?_set_self (by rw [← r.len]; exact l), q⟩
      · rw [List.getElem?_eq_none (by rw [List.length_set]; omega)] at e; cases e
    · rw [List.getElem?_set_ne h] at e ⊢
      exact r.slot j d' e
  · obtain ⟨h, e'⟩ := ne j ds e
    rw [List.getElem?_set_ne (Ne.symm h)]
    exact r.own j ds e'
  · obtain ⟨h1, f1⟩ := ne j ds e1
    obtain ⟨h2, f2⟩ := ne l es e2
    rw [List.getElem?_set_ne (Ne.symm h1)] at e3
    rw [List.getElem?_set_ne (Ne.symm h2)] at e4
    exact r.sep j l ds es p f1 f2 e3 e4
def gN (i : Nat) : CGx := fun _ d sc hc P => P (sc.set i (.val d)) hc
theorem cg_n (i : Nat) {x : Str} (hN : X.N.Nodup) (hi : X.N[i]? = some x := by rfl) (hx : Loc X.env.scope x := by first | exact Or.inl rfl | exact Or.inr rfl) (hf : X.fn x = true ∨ X.env.scope.names.lookup x = some .local := by first | exact .inl rfl | exact .inr rfl) : CG X W (.Name x pos) (gN i) :=
  ⟨pg_wk (pg_name hN hi hx hf) fun v σ H Q ⟨en, sc, hc, m, E, d, P, r, q, k, xo, f⟩ => f _ hc k _ H m (r.put i q) .refl⟩
def gNil' : CGsx := fun _ ds sc hc P => match ds with | [] => P sc hc | _ => False
def gCons' (g : CGx) (gs : CGsx) : CGsx := fun E ds sc hc P => match ds with | d :: r => g E d sc hc fun sc1 hc1 => gs E r sc1 hc1 P | [] => False
theorem cgs_nil : CGs X W [] gNil' := ⟨pgs_wk pgs_nil fun vs σ H Q ⟨en, sc, hc, m, E, ds, P, r, q, k, xo, f⟩ => by
  cases ds with
  | nil => unfold RepL at q; subst q; exact ⟨rfl, f sc hc k σ H m r .refl⟩
  | cons d ds => exact k.elim⟩
theorem cgs_cons {g : CGx} {gs : CGsx} (h1 : CG X W e g) (h2 : CGs X W es gs) (hs : (assignEach (e :: es) X.env).map (·.2) = assign e X.env :: (assignEach es X.env).map (·.2) := by rfl) : CGs X W (e :: es) (gCons' g gs) :=
  ⟨pgs_wk (pgs_cons h1.p h2.p hs) fun vs σ H Q ⟨en, sc, hc, m, E, ds, P, r, q, k, xo, f⟩ => by
    cases ds with
    | nil => exact k.elim
    | cons d ds =>
      unfold RepL at q
      obtain ⟨v, vr, rfl, q1, q2⟩ := q
      exact ⟨v, vr, rfl, en, sc, hc, m, E, d, _, r, q1, k, xo, fun sc1 hc1 k1 σ1 H1 m1 r1 s1 => ⟨en, sc1, hc1, m1, E, ds, P, r1, RepL.mono r.mu s1 _ _ q2, k1, xo, f.step s1⟩⟩⟩
/-- unpacking a tuple -/
def gTup' (n : Nat) (gs : CGsx) : CGx := fun E d sc hc P => match d with | .tup xs => xs.length = n ∧ gs E xs sc hc P | _ => False
theorem cg_t {gs : CGsx} {n k : Nat} (hc : X.calm = true) (h : CGs X W es gs) (hn : (assignEach es X.env).length = n := by rfl) (hst : (assignEach es X.env).findIdx? (·.1) = none := by rfl) : CG X W (.Tuple es k pos) (gTup' n gs) :=
  ⟨pg_wk (pg_tup hc h.p hn hst) fun v σ H Q ⟨en, sc, hc, m, E, d, P, r, q, k, xo, f⟩ => by
    cases d <;> try exact k.elim
    unfold Rep at q
    obtain ⟨p, vs, rfl, q1, q2⟩ := q
    exact ⟨p, vs, rfl, q1, by rw [← q2.length]; exact k.1, en, sc, hc, m, E, _, P, r, q2, k.2, xo, f⟩⟩
/-- unpacking a list -/
def gUnl' (n : Nat) (gs : CGsx) : CGx := fun E d sc hc P => match d with
  | .lst xs => xs.length = n ∧ gs E xs sc hc P
  | .ref a => oth (hc a) fun xs => xs.length = n ∧ gs E xs sc hc P
  | _ => False
theorem cg_l {gs : CGsx} {n k : Nat} (hc : X.calm = true) (h : CGs X W es gs) (hn : (assignEach es X.env).length = n := by rfl) (hst : (assignEach es X.env).findIdx? (·.1) = none := by rfl) : CG X W (.Tuple es k pos) (gUnl' n gs) :=
  ⟨pg_wk (pg_unl hc h.p hn hst) fun v σ H Q ⟨en, sc, hc, m, E, d, P, r, q, k, xo, f⟩ => by
    cases d <;> try exact k.elim
    · unfold Rep at q
      obtain ⟨p, vs, rfl, _, q1, q2⟩ := q
      exact ⟨p, vs, rfl, .of q1, by rw [← q2.length]; exact k.1, en, sc, hc, m, E, _, P, r, q2, k.2, xo, f⟩
    · unfold Rep at q
      subst q
      obtain ⟨xs, e, l, k⟩ := oth_of k
      obtain ⟨vs, q1, q2⟩ := r.heap _ _ e
      exact ⟨_, vs, rfl, .of q1, by rw [← q2.length]; exact l, en, sc, hc, m, E, _, P, r, q2, k, xo, f⟩⟩
/-- a change of a mutable list that is no slot's own -/
theorem Rs.chg {K : PySem.W.Frag} {en : En} {σ : L2.St} {H : Hp} {sc : List Sl} {hc : CH} {m : Ms} (r : Rs K en σ H sc hc m) {a : Addr} {ds es : List D} {ws : List V} (h : hc a = some ds) (q : RepL K H m es ws) :
    Rs K en σ (upd H a (.lst ws)) sc (updc hc a es) m ∧ Stp H m (upd H a (.lst ws)) m := by
  have ma := r.hm a ds h
  have st : Stp H m (upd H a (.lst ws)) m := ⟨fun p o e _ n => by rw [upd_ne (fun z => n (by rw [z]; exact ma))]; exact e, fun _ h => .inl h, fun p o e => upd_some e⟩
  refine ⟨⟨⟨⟨tabs_put r.tab (.inr (r.mu a ma)), fun p z => ?_, fun p ds' e => ?_, fun p ds' e => ?_⟩, r.emut, r.ehm, fun p o e t n => ?_, r.grow, r.hold, fun p ds' e => ?_, fun p o e => ?_⟩, fun i d e => ?_, fun i ds' e => ?_, r.sep, r.len⟩, st⟩
  · by_cases hp : p = a
    · subst hp; exact ⟨ws, upd_same⟩
    · rw [upd_ne hp]; exact r.mu p z
  · unfold updc at e
    by_cases hp : p = a
    · rw [hp]; exact ma
    · rw [if_neg hp] at e; exact r.hm p ds' e
  · unfold updc at e
    by_cases hp : p = a
    · rw [if_pos hp] at e; cases e
      subst hp
      exact ⟨ws, upd_same, RepL.mono r.mu st _ _ q⟩
    · rw [if_neg hp] at e
      obtain ⟨vs, e1, q1⟩ := r.heap p ds' e
      exact ⟨vs, by rw [upd_ne hp]; exact e1, RepL.mono r.mu st _ _ q1⟩
  · rw [upd_ne ?_]
    · exact r.keep p o e t n
    · rintro rfl
      rcases r.hgrow p ds h with y | y
      · exact y n
      · rw [e] at y; cases y
  · unfold updc at e
    by_cases hp : p = a
    · rw [hp]; exact r.hgrow a ds h
    · rw [if_neg hp] at e; exact r.hgrow p ds' e
  · by_cases hp : p = a
    · subst hp; rw [upd_same]; simp
    · rw [upd_ne hp]; exact r.live p o e
  · obtain ⟨v, e1, q1⟩ := r.slot i d e
    exact ⟨v, e1, Rep.mono r.mu st _ _ q1⟩
  · obtain ⟨p, vs, e1, mp, ep, hp, eH, q1⟩ := r.own i ds' e
    have hpa : p ≠ a := fun z => by rw [z, h] at hp; cases hp
    exact ⟨p, vs, e1, mp, ep, by unfold updc; rw [if_neg hpa]; exact hp, by rw [upd_ne hpa]; exact eH, RepL.mono r.mu st _ _ q1⟩
def gSub' (co ci : CEx) : CGx := fun E d sc hc P => co E sc hc fun o hc1 => ci E sc hc1 fun i hc2 => match o, i with
  | .ref a, .int k => oth (hc2 a) fun ds => oth (ixN ds.length k) fun j => P sc (updc hc2 a (ds.set j d))
  | _, _ => False
theorem cg_s {o i : Expr} {co ci : CEx} (ho : CE X W o co) (hi : CE X W i ci) (ha : ∀ v, assign (.Subscript o i pos) X.env v = (do
      let ov ← holding [v] (eval o X.env)
      let iv ← holding [v, ov] (eval i X.env)
      standAt pos
      holding [v, ov, iv] (setItem ov iv v)
      release [v, ov, iv] []) := by intro _; rfl) : CG X W (.Subscript o i pos) (gSub' co ci) :=
  ⟨pg_wk (pg_sub ho.p hi.p set_list ha) fun v σ H Q ⟨en, sc, hc, m, E, d, P, r, q, k, xo, f⟩ =>
    ⟨en, sc, hc, m, E, _, r, k, xo, fun x hc1 k1 v1 H1 m1 x1 q1 => ⟨en, sc, hc1, m1, E, _, r.call x1, k1, xo, fun y hc2 k2 v2 H2 m2 x2 q2 => by
      have r2 := (r.call x1).call x2
      have s1 := x1.stp
      have s2 := x2.stp
      cases x <;> try exact k2.elim
      cases y <;> try exact k2.elim
      obtain ⟨ds, e, k2⟩ := oth_of k2
      obtain ⟨j, ej, k3⟩ := oth_of k2
      unfold Rep at q1 q2
      subst q1; subst q2
      obtain ⟨vs, e1, rl⟩ := r2.heap _ _ e
      have qd := Rep.mono r.mu (s1.trans s2) _ _ q
      obtain ⟨r3, s3⟩ := r2.chg (es := ds.set j d) (ws := vs.set j v) e (RepL.set qd j rl)
      exact ⟨_, vs, _, j, rfl, rfl, e1, by rw [← rl.length]; exact ej, f _ _ k3 _ _ m2 r3 (s1.trans (s2.trans s3))⟩⟩⟩⟩
def cAsg (ce : CEx) (g : CGx) : CSx := fun C sc hc => ce C.xp sc hc fun d hc1 => g C.xp d sc hc1 fun sc2 hc2 => C.nx sc2 hc2
theorem asg_lift {g : CGx} {D : Ends} {σ : L2.St} {H : Hp} (h : LS X W (cAsg ce g) D σ H) : tAsg (LE X W ce) (LG X W g) D σ H := by
  obtain ⟨en, sc, hc, m, C, r, k, f⟩ := h
  exact ⟨en, sc, hc, m, C.xp, _, r, k, f.xp, fun d hc1 p v H1 m1 x1 q => ⟨en, sc, hc1, m1, C.xp, d, _, r.call x1, q, p, f.xp, f.nx.step x1.stp⟩⟩
theorem cs_asg {g : CGx} (he : CE X W e ce) (hg : CG X W tg g) (hs : swapsWithSole [tg] e pos.line X.env = pure false := by rfl) (hw : swappedStores [tg] e X.env = pure none := by rfl)
    (h1 : (assignEach [tg] X.env).map (·.2) = [assign tg X.env] := by rfl) : CS X W (.Assign [tg] e pos) (cAsg ce g) := ⟨ps_wk (ps_asg he.p hg.p hs hw h1) fun D σ H h => asg_lift h⟩
theorem cs_set {i : Nat} {x : Str} {p2 : Pos} (hN : X.N.Nodup) (he : CE X W e ce) (hi : X.N[i]? = some x := by rfl) (hx : Loc X.env.scope x := by first | exact Or.inl rfl | exact Or.inr rfl) (hs : swapsWith e (some (.Name x p2)) pos.line X.env = pure false := by rfl) (hf : X.fn x = true ∨ X.env.scope.names.lookup x = some .local := by first | exact .inl rfl | exact .inr rfl) :
    CS X W (.Assign [.Name x p2] e pos) (cAsg ce (gN i)) := ⟨ps_wk (ps_set hN hi hx he.p hs hf) fun D σ H ⟨en, sc, hc, m, C, r, k, f⟩ =>
  ⟨en, sc, hc, m, C.xp, _, r, k, f.xp, fun d hc1 p v H1 m1 x1 q => f.nx _ hc1 p _ H1 m1 ((r.call x1).put i q) x1.stp⟩⟩

/-! ### lists that a slot alone holds -/
theorem Rs.mine {K : PySem.W.Frag} {en : En} {σ : L2.St} {H : Hp} {sc : List Sl} {hc : CH} {m : Ms} (r : Rs K en σ H sc hc m) (i : Nat) {p : Addr} {ds : List D} {vs : List V} (n : H p = none) (q : RepL K H m ds vs) :
    ∃ m', Rs K en (σ.set i (some (.ref p))) (upd H p (.lst vs)) (sc.set i (.own ds)) hc m' ∧ Stp H m (upd H p (.lst vs)) m' := by
  have st : Stp H m (upd H p (.lst vs)) (fun a => m a ∨ a = p) := ⟨fun a o e _ _ => same_upd n a o e, fun a z => z.elim .inl fun e => .inr (by rw [e]; exact n), fun a o e => by rw [same_upd n a o e]; simp⟩
  have e0 : en.H p = none := by
    cases e : en.H p with
    | none => rfl
    | some o => exact absurd n (r.live p o e)
  have hn := hc_none r.toWd n
  refine ⟨_, ⟨⟨⟨tabs_put r.tab (.inl n), fun a z => ?_, fun a ds' e => .inl (r.hm a ds' e), fun a ds' e => ?_⟩, r.emut, r.ehm, fun a o e t h => same_upd n a o (r.keep a o e t h), fun a z => ?_, fun a z h => .inl (r.hold a z h), r.hgrow, fun a o e => ?_⟩, fun j d e => ?_, fun j ds' e => ?_, fun j l ds1 ds2 a e1 e2 e3 e4 => ?_, by rw [List.length_set, List.length_set]; exact r.len⟩, st⟩
  · rcases z with z | rfl
    · obtain ⟨ws, e⟩ := r.mu a z
      exact ⟨ws, same_upd n _ _ e⟩
    · exact ⟨vs, upd_same⟩
  · obtain ⟨ws, e1, q1⟩ := r.heap a ds' e
    exact ⟨ws, same_upd n _ _ e1, RepL.mono r.mu st _ _ q1⟩
  · rcases z with z | rfl
    · exact r.grow a z
    · exact .inr e0
  · cases e2 : H a with
    | none => exact absurd e2 (r.live a o e)
    | some u => rw [same_upd n a u e2]; simp
  · by_cases h : i = j
    · subst h
      by_cases l : i < sc.length
      · rw [List.getElem?_set_self l] at e; cases e
      · rw [List.getElem?_eq_none (by rw [List.length_set]; omega)] at e; cases e
    · rw [List.getElem?_set_ne h] at e ⊢
      obtain ⟨v, e1, q1⟩ := r.slot j d e
      exact ⟨v, e1, Rep.mono r.mu st _ _ q1⟩
  · by_cases h : i = j
    · subst h
      by_cases l : i < sc.length
      · rw [List.getElem?_set_self l] at e; cases e
        exact ⟨p, vs, List.getElem?_set_self (by rw [← r.len]; exact l), .inr rfl, e0, hn, upd_same, RepL.mono r.mu st _ _ q⟩
      · rw [List.getElem?_eq_none (by rw [List.length_set]; omega)] at e; cases e
    · rw [List.getElem?_set_ne h] at e ⊢
      obtain ⟨a, ws, e1, ma, ea, ha, eH, q1⟩ := r.own j ds' e
      exact ⟨a, ws, e1, .inl ma, ea, ha, same_upd n _ _ eH, RepL.mono r.mu st _ _ q1⟩
  · have other : ∀ (x : Nat) (ds' : List D), x ≠ i → (sc.set i (.own ds))[x]? = some (Sl.own ds') → (σ.set i (some (V.ref p)))[x]? = some (some (V.ref a)) → sc[x]? = some (Sl.own ds') ∧ σ[x]? = some (some (V.ref a)) ∧ a ≠ p := fun x ds' hx f1 f2 => by
      rw [List.getElem?_set_ne (Ne.symm hx)] at f1 f2
      obtain ⟨b, ws, g1, _, _, _, gH, _⟩ := r.own x ds' f1
      rw [f2] at g1; cases g1
      exact ⟨f1, f2, fun z => by rw [z, n] at gH; cases gH⟩
    have self : ∀ (x : Nat), x = i → (σ.set i (some (V.ref p)))[x]? = some (some (V.ref a)) → a = p := fun x hx f => by
      subst hx
      by_cases l : x < σ.length
      · rw [List.getElem?_set_self l] at f; cases f; rfl
      · rw [List.getElem?_eq_none (by rw [List.length_set]; omega)] at f; cases f
    by_cases hj : j = i
    · by_cases hl : l = i
      · rw [hj, hl]
      · exact absurd (self j hj e3) (other l ds2 hl e2 e4).2.2
    · by_cases hl : l = i
      · exact absurd (self l hl e4) (other j ds1 hj e1 e3).2.2
      · obtain ⟨f1, f2, _⟩ := other j ds1 hj e1 e3
        obtain ⟨g1, g2, _⟩ := other l ds2 hl e2 e4
        exact r.sep j l _ _ a f1 g1 f2 g2
/-- x = [..], a list that grows -/
def cSetO (i : Nat) (ca : CAx) : CSx := fun C sc hc => ca C.xp sc hc fun ds hc1 => ds.length ≤ sizeLine ∧ C.nx (sc.set i (.own ds)) hc1
theorem cs_setO {i : Nat} {x : Str} {p2 p3 : Pos} (hN : X.N.Nodup) (ha : CA X W es ca) (hi : X.N[i]? = some x := by rfl) (hx : Loc X.env.scope x := by first | exact Or.inl rfl | exact Or.inr rfl) (hs : swapsWith (.List es p3) (some (.Name x p2)) pos.line X.env = pure false := by rfl) (hf : X.fn x = true ∨ X.env.scope.names.lookup x = some .local := by first | exact .inl rfl | exact .inr rfl) :
    CS X W (.Assign [.Name x p2] (.List es p3) pos) (cSetO i ca) := ⟨ps_wk (ps_set hN hi hx (pe_lst ha.p) hs hf) fun D σ H ⟨en, sc, hc, m, C, r, k, f⟩ =>
  ⟨en, sc, hc, m, C.xp, _, r, k, f.xp, fun ds hc1 p vs H1 m1 x1 q => ⟨by rw [← q.length]; exact p.1, fun a n => by
    obtain ⟨m2, r2, s2⟩ := (r.call x1).mine i n q
    exact f.nx _ hc1 p.2 _ _ m2 r2 (x1.stp.trans s2)⟩⟩⟩
/-- the owned list of a slot with other items -/
theorem Rs.grown {K : PySem.W.Frag} {en : En} {σ : L2.St} {H : Hp} {sc : List Sl} {hc : CH} {m : Ms} (r : Rs K en σ H sc hc m) {i : Nat} {p : Addr} {ds es : List D} {ws : List V} (e : sc[i]? = some (Sl.own ds)) (ep : σ[i]? = some (some (V.ref p))) (q : RepL K H m es ws) :
    Rs K en σ (upd H p (.lst ws)) (sc.set i (.own es)) hc m ∧ Stp H m (upd H p (.lst ws)) m := by
  obtain ⟨a, vs, e1, ma, h0, h1, eH, q1⟩ := r.own i ds e
  rw [ep] at e1; cases e1
  have st : Stp H m (upd H p (.lst ws)) m := ⟨fun b o e _ n => by rw [upd_ne (fun z => n (by rw [z]; exact ma))]; exact e, fun _ h => .inl h, fun p o e => upd_some e⟩
  have li : i < sc.length := by
    by_cases l : i < sc.length
    · exact l
    · rw [List.getElem?_eq_none (by omega)] at e; cases e
  refine ⟨⟨⟨⟨tabs_put r.tab (.inr (r.mu p ma)), fun b z => ?_, r.hm, fun b ds' e' => ?_⟩, r.emut, r.ehm, fun b o e' t n => ?_, r.grow, r.hold, r.hgrow, fun b o e' => ?_⟩, fun j d e' => ?_, fun j ds' e' => ?_, fun j l ds1 ds2 b f1 f2 f3 f4 => ?_, by rw [List.length_set]; exact r.len⟩, st⟩
  · by_cases hp : b = p
    · subst hp; exact ⟨ws, upd_same⟩
    · rw [upd_ne hp]; exact r.mu b z
  · have hp : b ≠ p := fun z => by rw [z, h1] at e'; cases e'
    obtain ⟨us, e2, q2⟩ := r.heap b ds' e'
    exact ⟨us, by rw [upd_ne hp]; exact e2, RepL.mono r.mu st _ _ q2⟩
  · rw [upd_ne (fun z => by rw [z, h0] at e'; cases e')]
    exact r.keep b o e' t n
  · by_cases hp : b = p
    · subst hp; rw [upd_same]; simp
    · rw [upd_ne hp]; exact r.live b o e'
  · by_cases h : i = j
    · subst h; rw [List.getElem?_set_self li] at e'; cases e'
    · rw [List.getElem?_set_ne h] at e'
      obtain ⟨v, e2, q2⟩ := r.slot j d e'
      exact ⟨v, e2, Rep.mono r.mu st _ _ q2⟩
  · by_cases h : i = j
    · subst h
      rw [List.getElem?_set_self li] at e'; cases e'
      exact ⟨p, ws, ep, ma, h0, h1, upd_same, RepL.mono r.mu st _ _ q⟩
    · rw [List.getElem?_set_ne h] at e'
      obtain ⟨b, us, e2, mb, b0, b1, bH, q2⟩ := r.own j ds' e'
      have hbp : b ≠ p := fun z => h (r.sep i j ds ds' p e e' ep (by rw [← z]; exact e2))
      exact ⟨b, us, e2, mb, b0, b1, by rw [upd_ne hbp]; exact bH, RepL.mono r.mu st _ _ q2⟩
  · have back : ∀ (x : Nat) (ds' : List D), (sc.set i (.own es))[x]? = some (Sl.own ds') → ∃ ds'', sc[x]? = some (Sl.own ds'') := fun x ds' g => by
      by_cases h : i = x
      · subst h; exact ⟨ds, e⟩
      · rw [List.getElem?_set_ne h] at g; exact ⟨ds', g⟩
    obtain ⟨_, g1⟩ := back j _ f1
    obtain ⟨_, g2⟩ := back l _ f2
    exact r.sep j l _ _ b g1 g2 f3 f4
/-- x.append(e), x an owned list -/
def cApp (i : Nat) (ce : CEx) : CSx := fun C sc hc => match lookO sc i with | some ds => ds.length < sizeLine ∧ ce C.xp sc hc fun d hc1 => C.nx (sc.set i (.own (ds ++ [d]))) hc1 | none => False
theorem cs_app {x : Str} {px pa : Pos} (i : Nat) (he : CE X W e ce) (hN : X.N[i]? = some x := by rfl) (hv : Vis X.env.scope x := by first | exact Or.inl rfl | exact Or.inr (Or.inl rfl) | exact Or.inr (Or.inr rfl)) (hd : (x == ("__debug__" : Str)) = false := by decide) (hcd : (x == ("__classdict__" : Str)) = false := by decide)
    (hs : starEach [e] X.env = (false, eval e X.env) :: starEach [] X.env := by rfl)
    (hb : attributeBase (.Name x px) "append" X.env (eval (.Name x px) X.env) = eval (.Name x px) X.env := by rfl) {pc : Pos}
    (hfew : ((backTo pc (starEach [e] X.env)).all (fun x => !x.1) && (backToKw pc (keywordEach [] X.env)).all (fun x => x.1.isSome)
      && decide ([e].length + ([] : List Keyword).length + (if ([] : List Keyword).isEmpty then 0 else 1) < 30)) = true := by rfl)
    (hl : (pa.endLine == pc.line) = true := by rfl)
    (hsw : swapsWith (.Call (.Attribute (.Name x px) "append" pa) [e] [] pc) none pos.line X.env = pure false := by rfl) : CS X W (.Expr (.Call (.Attribute (.Name x px) "append" pa) [e] [] pc) pos) (cApp i ce) :=
  ⟨ps_wk (ps_expr (pe_bm PySem.F.plainAttrs_list PySem.F.slot_list_append PySem.F.type_list_append mt_append (pv i hN hv hd hcd) (pa_cons he.p pa_nil hs) hb hfew hl hs) hsw) fun D σ H ⟨en, sc, hc, m, C, r, k, f⟩ => by
    unfold cApp at k
    split at k
    case h_2 => exact k.elim
    rename_i ds e0
    obtain ⟨lt, k⟩ := k
    have e' := lookO_get e0
    obtain ⟨p, vs, e1, ma, h0, h1, eH, q1⟩ := r.own i ds e'
    refine ⟨.ref p, e1, .inl ⟨rfl, vs, .of eH⟩, en, sc, hc, m, C.xp, _, r, k, f.xp, fun d hc1 pp v H1 m1 x1 q => ?_⟩
    have r1 := r.call x1
    have s1 := x1.stp
    obtain ⟨p2, vs2, e2, _, _, _, eH2, q2⟩ := r1.own i ds e'
    rw [e1] at e2; cases e2
    obtain ⟨r2, s2⟩ := r1.grown e' e1 (q2.append (RepL.one q))
    exact ⟨p, vs2, v, rfl, rfl, eH2, by rw [← q2.length]; exact lt, f.nx _ hc1 pp _ _ m1 r2 (s1.trans s2)⟩⟩
/-- the owned list becomes a value -/
theorem Rs.give {K : PySem.W.Frag} {en : En} {σ : L2.St} {H : Hp} {sc : List Sl} {hc : CH} {m : Ms} (r : Rs K en σ H sc hc m) {i : Nat} {ds : List D} (e : sc[i]? = some (Sl.own ds)) : ∃ m', Rs K en σ H (sc.set i (.val (.lst ds))) hc m' ∧ Stp H m H m' := by
  obtain ⟨p, vs, e1, ma, h0, h1, eH, q1⟩ := r.own i ds e
  obtain ⟨x, st⟩ := r.toEx.drop h0 h1
  have li : i < sc.length := by
    by_cases l : i < sc.length
    · exact l
    · rw [List.getElem?_eq_none (by omega)] at e; cases e
  have ne : ∀ (j : Nat) (ds' : List D), (sc.set i (.val (.lst ds)))[j]? = some (Sl.own ds') → j ≠ i ∧ sc[j]? = some (Sl.own ds') := fun j ds' e' => by
    by_cases h : i = j
    · subst h; rw [List.getElem?_set_self li] at e'; cases e'
    · rw [List.getElem?_set_ne h] at e'; exact ⟨fun z => h z.symm, e'⟩
  refine ⟨_, ⟨x, fun j d e' => ?_, fun j ds' e' => ?_, fun j l ds1 ds2 b f1 f2 f3 f4 => r.sep j l _ _ b (ne j _ f1).2 (ne l _ f2).2 f3 f4, by rw [List.length_set]; exact r.len⟩, st⟩
  · by_cases h : i = j
    · subst h
      rw [List.getElem?_set_self li] at e'; cases e'
      refine ⟨_, e1, ?_⟩
      unfold Rep
      exact ⟨p, vs, rfl, fun z => z.2 rfl, eH, RepL.mono r.mu st _ _ q1⟩
    · rw [List.getElem?_set_ne h] at e'
      obtain ⟨v, e2, q2⟩ := r.slot j d e'
      exact ⟨v, e2, Rep.mono r.mu st _ _ q2⟩
  · obtain ⟨hj, e2⟩ := ne j ds' e'
    obtain ⟨b, us, e3, mb, b0, b1, bH, q2⟩ := r.own j ds' e2
    refine ⟨b, us, e3, ⟨mb, fun z => hj (r.sep j i ds' ds p e2 e (by rw [← z]; exact e3) e1)⟩, b0, b1, bH, RepL.mono r.mu st _ _ q2⟩
/-- ghost: the slot's list is a value from here on -/
def cGive (i : Nat) (c : CSx) : CSx := fun C sc hc => match lookO sc i with | some ds => c C (sc.set i (.val (.lst ds))) hc | none => False
theorem cs_give (i : Nat) (h : CS X W st c) : CS X W st (cGive i c) := ⟨ps_wk h.p fun D σ H ⟨en, sc, hc, m, C, r, k, f⟩ => by
  unfold cGive at k
  split at k
  case h_2 => exact k.elim
  rename_i ds e
  obtain ⟨m', r', s'⟩ := r.give (lookO_get e)
  exact ⟨en, _, hc, m', C, r', k, f.step s'⟩⟩

/-! ### two, three names at once -/
def cPar (i j : Nat) (ca : CAx) : CSx := fun C sc hc => ca C.xp sc hc fun ds hc1 => match ds with | [x, y] => C.nx ((sc.set i (.val x)).set j (.val y)) hc1 | _ => False
theorem cs_par {i j : Nat} {x y : Str} {a b : Expr} {px py pt : Pos} {kt k2 : Nat} {p2 : Pos} (hc : X.calm = true) (hN : X.N.Nodup) (ha : CA X W [a, b] ca) (hw : swappedStores [.Tuple [.Name x px, .Name y py] kt pt] (.Tuple [a, b] k2 p2) X.env = pure (some [x, y]) := by rfl) (hi : X.N[i]? = some x := by rfl) (hj : X.N[j]? = some y := by rfl) (hij : i ≠ j := by decide)
    (hx : X.env.scope.names.lookup x = some .local := by rfl) (hy : X.env.scope.names.lookup y = some .local := by rfl)
    (hs : swapsWithSole [.Tuple [.Name x px, .Name y py] kt pt] (.Tuple [a, b] k2 p2) pos.line X.env = pure false := by rfl) : CS X W (.Assign [.Tuple [.Name x px, .Name y py] kt pt] (.Tuple [a, b] k2 p2) pos) (cPar i j ca) :=
  ⟨ps_wk (ps_par hc hN hi hj hij hx hy ha.p hw hs) fun D σ H ⟨en, sc, hc, m, C, r, k, f⟩ =>
    ⟨en, sc, hc, m, C.xp, _, r, k, f.xp, fun ds hc1 p vs H1 m1 x1 q => by
      have r1 := r.call x1
      have s1 := x1.stp
      split at p
      · unfold RepL at q
        obtain ⟨v, _, rfl, q1, q⟩ := q
        unfold RepL at q
        obtain ⟨w, _, rfl, q2, q⟩ := q
        unfold RepL at q
        subst q
        exact ⟨v, w, rfl, f.nx _ hc1 p _ H1 m1 ((r1.put i q1).put j q2) s1⟩
      · exact p.elim⟩⟩
def cPar3 (i j l : Nat) (ca : CAx) : CSx := fun C sc hc => ca C.xp sc hc fun ds hc1 => match ds with | [x, y, z] => C.nx (((sc.set i (.val x)).set j (.val y)).set l (.val z)) hc1 | _ => False
theorem cs_par3 {i j l : Nat} {x y z : Str} {a b c : Expr} {px py pz pt : Pos} {kt k2 : Nat} {p2 : Pos} (hc : X.calm = true) (hN : X.N.Nodup) (ha : CA X W [a, b, c] ca) (hw : swappedStores [.Tuple [.Name x px, .Name y py, .Name z pz] kt pt] (.Tuple [a, b, c] k2 p2) X.env = pure (some [x, y, z]) := by rfl) (hi : X.N[i]? = some x := by rfl) (hj : X.N[j]? = some y := by rfl) (hl : X.N[l]? = some z := by rfl) (hij : i ≠ j := by decide) (hil : i ≠ l := by decide) (hjl : j ≠ l := by decide)
    (hx : X.env.scope.names.lookup x = some .local := by rfl) (hy : X.env.scope.names.lookup y = some .local := by rfl) (hz : X.env.scope.names.lookup z = some .local := by rfl)
    (hs : swapsWithSole [.Tuple [.Name x px, .Name y py, .Name z pz] kt pt] (.Tuple [a, b, c] k2 p2) pos.line X.env = pure false := by rfl) : CS X W (.Assign [.Tuple [.Name x px, .Name y py, .Name z pz] kt pt] (.Tuple [a, b, c] k2 p2) pos) (cPar3 i j l ca) :=
  ⟨ps_wk (ps_par3 hc hN hi hj hl hij hil hjl hx hy hz ha.p hw hs) fun D σ H ⟨en, sc, hc, m, C, r, k, f⟩ =>
    ⟨en, sc, hc, m, C.xp, _, r, k, f.xp, fun ds hc1 p vs H1 m1 x1 q => by
      have r1 := r.call x1
      have s1 := x1.stp
      split at p
      · unfold RepL at q
        obtain ⟨v, _, rfl, q1, q⟩ := q
        unfold RepL at q
        obtain ⟨w, _, rfl, q2, q⟩ := q
        unfold RepL at q
        obtain ⟨w3, _, rfl, q3, q⟩ := q
        unfold RepL at q
        subst q
        exact ⟨v, w, w3, rfl, f.nx _ hc1 p _ H1 m1 (((r1.put i q1).put j q2).put l q3) s1⟩
      · exact p.elim⟩⟩
/-- x op= e -/
def cAug (i : Nat) (f : O2) (ce : CEx) : CSx := fun C sc hc => match look sc i with | some x => ce C.xp sc hc fun d hc1 => f x d hc1 fun z => C.nx (sc.set i (.val z)) hc1 | none => False
theorem cs_aug {i : Nat} {x : Str} {p2 : Pos} {op : Operator} {f : O2} (hN : X.N.Nodup) (he : CE X W e ce) (ho : PIp X op (LV2 X.K f)) (hi : X.N[i]? = some x := by rfl) (hx : Loc X.env.scope x := by first | exact Or.inl rfl | exact Or.inr rfl) (hf : X.fn x = true ∨ X.env.scope.names.lookup x = some .local := by first | exact .inl rfl | exact .inr rfl) :
    CS X W (.AugAssign (.Name x p2) op e pos) (cAug i f ce) := ⟨ps_wk (ps_aug hN hi hx he.p ho hf) fun D σ H ⟨en, sc, hc, m, C, r, k, fo⟩ => by
  unfold cAug at k
  split at k
  case h_2 => exact k.elim
  rename_i y e0
  obtain ⟨v, e1, q0⟩ := r.slot i y (look_get e0)
  refine ⟨v, e1, en, sc, hc, m, C.xp, _, r, k, fo.xp, fun d hc1 p w H1 m1 x1 q => ⟨hc1, m1, y, d, _, x1.toWd, (Rep.mono r.mu x1.stp _ _ q0).w, q.w, p, fun z pz v' H' sm q' => ?_⟩⟩
  exact fo.nx _ hc1 pz _ H' m1 (((r.call x1).same sm).put i q') (x1.stp.trans (.same sm))⟩
theorem ip_intD0 {op : Operator} {g : Int → Int → Int} (ho : PIp X op (ipI g)) : PIp X op (LV2 X.K (intD0 g)) := by
  intro pins s σ H x y v u Q I rx ry h
  obtain ⟨hc, m, dx, dy, P, w, h1, h2, f, fin⟩ := h
  cases dx <;> cases dy <;> try exact f.elim
  unfold RepW Rep at h1 h2
  subst h1; subst h2
  exact ho pins s σ H _ _ v u Q I rx ry ⟨_, _, rfl, rfl, fin _ f _ _ (.refl H) rep_int⟩
theorem ip_addI : PIp X .Add (LV2 X.K (intD0 fun i j => i + j)) := ip_intD0 ip_add
theorem ip_subI : PIp X .Sub (LV2 X.K (intD0 fun i j => i - j)) := ip_intD0 ip_sub

/-! ### while -/
def whN (t : CTx) (c : CSx) : Nat → CSx
  | 0 => fun _ _ _ => False
  | n + 1 => fun C sc hc => t C.xp sc hc fun b hc1 => if b = true then c { nx := fun s h => whN t c n C s h, ct := fun s h => whN t c n C s h, bk := C.nx, rt := C.rt, xp := C.xp } sc hc1 else C.nx sc hc1
def cWhile (t : CTx) (c : CSx) : CSx := fun C sc hc => ∃ n, whN t c n C sc hc
theorem cs_while (hp : PassesOwn (model X.prog X.w) X.A X.env X.xe) (ht : CT X W e ct) (hb : CSs X W body c) : CS X W (.While e body [] pos) (cWhile ct c) := ⟨ps_wk (ps_while hp ht.p hb.p) fun D σ H ⟨en, sc, hc, m, C, r, ⟨n, k⟩, f⟩ => by
  refine ⟨fun n σ' H' => ∃ sc' hc' m', Rs X.K en σ' H' sc' hc' m' ∧ Stp H m H' m' ∧ whN ct c n C sc' hc', ⟨n, sc, hc, m, r, .refl, k⟩, fun n σ1 H1 ⟨sc1, hc1, m1, r1, s1, k1⟩ => ?_⟩
  cases n with
  | zero => exact k1.elim
  | succ n =>
    refine ⟨en, sc1, hc1, m1, C.xp, _, r1, k1, f.xp, fun b hc2 p H2 m2 x2 => ?_⟩
    have r2 := r1.call x2
    have s12 := s1.trans x2.stp
    cases b with
    | true =>
      rw [if_pos rfl] at p
      refine iteT ⟨_, fun σ' H' h => h, en, sc1, hc2, m2, _, r2, p, ⟨fun sc' hc' p' σ' H' m' r' s' => ⟨n, Nat.lt_succ_self n, sc', hc', m', r', s12.trans s', p'⟩, f.nx.step s12, fun sc' hc' p' σ' H' m' r' s' => ⟨n, Nat.lt_succ_self n, sc', hc', m', r', s12.trans s', p'⟩, f.rt, f.xp⟩⟩
    | false =>
      rw [if_neg Bool.false_ne_true] at p
      exact iteF (f.nx sc1 hc2 p σ1 H2 m2 r2 s12)⟩

/-! ### ranges of any ends -/
theorem longTurn {P : Program} {w : World} {K : PySem.W.Frag} {tg : Expr} (b0 : Addr) (l : Int) (n : Nat) : Turn P w K tg (Itr l n) [b0] b0 (fun i g => IsLongIter g b0 (l + (i : Nat) * 1) ((n : Int) - (i : Nat)) 1) where
  mem := List.mem_singleton.mpr rfl
  obj := fun i g st b hb => by
    cases List.mem_singleton.mp hb
    refine ⟨_, st, fun v z => ?_⟩
    have z2 : Data.fields _ = Data.cell v := z
    cases z2
  keep := fun i g g' st k => k b0 (List.mem_singleton.mpr rfl) _ st
  item := fun X hP hw hK hc i pins s σ H E I hf st hg => by
    subst hP; subst hw; subst hK
    obtain ⟨f0, f1, f2, f3, f4, f5⟩ := hf b0 (List.mem_singleton.mpr rfl)
    refine (Walks.longrange (prog := X.prog) (w := X.w) (I.ok.hd hc) b0 l 1 n).item i s _ _ hg st fun v g tk hv st2 kk => ?_
    obtain ⟨t, rfl⟩ := hv
    have I2 : Inv X pins σ H { s with heap := g, toks := tk } := I.turned (fun b o hb e => kk b o (fun z => hb (List.mem_singleton.mp z)) e) f0 f1 f3 f4 f5
    refine ⟨_, rfl, go_of (s := { s with heap := g, toks := tk }) (n := "longrange_iterator") st2 rfl rfl (by decide) ⟨.int (l + i), H, I2, ⟨t, ?_⟩, ⟨rfl, rfl⟩, st2, fun b hb => (hf b hb).1⟩⟩
    rw [Int.mul_one]
  done := fun X hP hw hK hc i pins s σ H E I hf st hg => by
    subst hP; subst hw; subst hK
    obtain ⟨f0, f1, f2, f3, f4, f5⟩ := hf b0 (List.mem_singleton.mpr rfl)
    refine wpAny_pyNext_long_end (I.ok.hd hc) st ?_ fun g eb => ⟨rfl, I.turned (t' := s.toks) (fun b o hb e => eb b o hb e) f0 f1 f3 f4 f5⟩
    have : n ≤ i := hg
    omega
  self := fun _ _ _ _ _ st h => wpAny_pyIter_longiter st h
theorem rangeAny {pins : List (Addr × Obj)} {σ : L2.St} {H : Hp} {s : Shared} {R : It → Hp → Prop} {E : Value → Shared → Prop} {l u : Int} {t1 t2 t3 : Tok} {tk : Nat} (I : Inv X pins σ H s)
    (q : R (Itr l (u - l).toNat) H) : wpAny (model X.prog X.w) X.A (pyIter (.ref s.heap.objs.size)) (PIE X pins σ tg R) E { s with heap := s.heap.push { cls := .type "range", data := .fields #[.int l t1, .int u t2, .int 1 t3] }, toks := tk } := by
  have I1 : Inv X pins σ H { s with heap := s.heap.push { cls := .type "range", data := .fields #[.int l t1, .int u t2, .int 1 t3] }, toks := tk } := I.kept fun b o e => Heap.get?_push_of_some _ e
  have e1 : l + ((0 : Nat) : Int) * 1 = l := by omega
  have e2 : (((u - l).toNat : Nat) : Int) - ((0 : Nat) : Int) = Builtin.Range.rangeSize l u 1 := by rw [rangeSize_one]; split <;> omega
  cases hs : Builtin.Range.small l u 1 with
  | true =>
    refine wpAny_pyIter_range (IsRange.new ..) hs ?_
    refine ⟨_, [_], _, _, H, rfl, I1.kept (t' := tk) fun b o e => Heap.get?_push_of_some _ e, turn_range _ l (u - l).toNat, ?_, fun b hb => ?_, q⟩
    · show IsRangeIter _ _ (l + ((0 : Nat) : Int) * 1) ((((u - l).toNat : Nat) : Int) - ((0 : Nat) : Int)) 1
      rw [e1, e2]
      exact Heap.get?_push_size _ rfl
    · cases List.mem_singleton.mp hb
      exact I1.fpOk (Nat.le_refl _) (I1.hok.fresh (Nat.le_refl _))
  | false =>
    refine wpAny_pyIter_longrange (IsRange.new ..) hs ?_
    refine ⟨_, [_], _, _, H, rfl, I1.kept (t' := tk) fun b o e => Heap.get?_push_of_some _ e, longTurn _ l (u - l).toNat, ?_, fun b hb => ?_, q⟩
    · show IsLongIter _ _ (l + ((0 : Nat) : Int) * 1) ((((u - l).toNat : Nat) : Int) - ((0 : Nat) : Int)) 1
      rw [e1, e2]
      exact Heap.get?_push_size _ rfl
    · cases List.mem_singleton.mp hb
      exact I1.fpOk (Nat.le_refl _) (I1.hok.fresh (Nat.le_refl _))
def tR1 (ta : L2.TA) : TI := fun σ H R => ta σ H fun vs H1 => ∃ j : Int, vs = [.int j] ∧ R (Itr 0 j.toNat) H1
def tR2 (ta : L2.TA) : TI := fun σ H R => ta σ H fun vs H1 => ∃ i j : Int, vs = [.int i, .int j] ∧ R (Itr i (j - i).toNat) H1
theorem piR1 {a : Expr} {ta : L2.TA} {p pos : Pos} (hg : Gl X "range") (hm : X.mg "range" = none) (ha : PA X [a] ta) (hs : starEach [a] X.env = [(false, eval a X.env)]) : PI X tg (.Call (.Name "range" p) [a] [] pos) (tR1 ta) := by
  refine ⟨fun pins s σ H R I h => Call_ (ld_blt I hg hm boot_range (PyProof.Rows.callWith_type1 (thn (ha.run pos pins s σ H _ I h) fun us s1 ⟨vs, H1, I1, r1, q1⟩ => ?_) hs rfl))⟩
  obtain ⟨j, rfl, q⟩ := q1
  obtain _ | ⟨r, rr⟩ := r1
  cases rr
  obtain ⟨t, rfl⟩ := r
  refine call_range_1 (rangeAny I1 ?_)
  rw [Int.sub_zero]
  exact q
theorem piR2 {a b : Expr} {ta : L2.TA} {p pos : Pos} (hg : Gl X "range") (hm : X.mg "range" = none) (ha : PA X [a, b] ta) (hs : starEach [a, b] X.env = [(false, eval a X.env), (false, eval b X.env)]) (hs2 : starEach [b] X.env = [(false, eval b X.env)]) :
    PI X tg (.Call (.Name "range" p) [a, b] [] pos) (tR2 ta) := by
  refine ⟨fun pins s σ H R I h => Call_ (ld_blt I hg hm boot_range (PyProof.Rows.callWith_type1 (thn (ha.run pos pins s σ H _ I h) fun us s1 ⟨vs, H1, I1, r1, q1⟩ => ?_) (by rw [hs, hs2]) (by rw [hs2]; rfl)))⟩
  obtain ⟨i, j, rfl, q⟩ := q1
  obtain _ | ⟨r, rr⟩ := r1
  obtain _ | ⟨r', rr⟩ := rr
  cases rr
  obtain ⟨t, rfl⟩ := r
  obtain ⟨t', rfl⟩ := r'
  exact call_range_2 (rangeAny I1 q)
/-! ### for -/
def Yields (K : PySem.W.Frag) (J : It) (ds : List D) (H0 : Hp) (m0 : Ms) : Prop := ∀ (H : Hp) (m : Ms), MutOk H m → Stp H0 m0 H m → ∀ i : Nat,
  (∀ d, ds[i]? = some d → J.go i H ∧ ∀ x H', J.yld i H x H' → Same H H' ∧ Rep K H' m d x) ∧ (ds.length ≤ i → J.stop i H)
abbrev CIx := XP → List Sl → CH → (List D → CH → Prop) → Prop
def LI (X : Cx) (W : WX) (c : CIx) : TI := fun σ H R => ∃ en sc hc m E P, Rs X.K en σ H sc hc m ∧ c E sc hc P ∧ XOk X W en E ∧
  ∀ ds hc', P ds hc' → ∀ J H' m', Ex X.K ⟨H, hc, m⟩ H' hc' m' → Yields X.K J ds H' m' → R J H'
structure CI (X : Cx) (W : WX) (tg e : Expr) (c : CIx) : Prop where
  p : PI X tg e (LI X W c)
theorem pi_wk {X : Cx} {tg e : Expr} {t t' : TI} (h : PI X tg e t) (g : ∀ σ H Q, t' σ H Q → t σ H Q) : PI X tg e t' := ⟨fun pins s σ H Q I q => h.run pins s σ H Q I (g σ H Q q)⟩
def forW (g : CGx) (c : CSx) : List D → CSx
  | [] => fun C sc hc => C.nx sc hc
  | d :: ds => fun C sc hc => g C.xp d sc hc fun sc1 hc1 => c { nx := fun s h => forW g c ds C s h, ct := fun s h => forW g c ds C s h, bk := C.nx, rt := C.rt, xp := C.xp } sc1 hc1
def cFor (ci : CIx) (g : CGx) (c : CSx) : CSx := fun C sc hc => ci C.xp sc hc fun ds hc1 => forW g c ds C sc hc1
theorem cs_for {ci : CIx} {g : CGx} (hp : PassesOwn (model X.prog X.w) X.A X.env X.xe) (hcl : X.calm = true) (hi : CI X W tg iter ci) (hg : CG X W tg g) (hb : CSs X W body c) (hs : ∀ x, foldedSetIterable iter X.env x = pure x := by intro _; rfl) : CS X W (.For tg iter body [] pos) (cFor ci g c) :=
  ⟨ps_wk (ps_for hp hcl hi.p hg.p hb.p hs) fun D σ H ⟨en, sc, hc, m, C, r, k, f⟩ => by
    refine ⟨en, sc, hc, m, C.xp, _, r, k, f.xp, fun ds hc0 k0 J H0 m0 x0 yl => ?_⟩
    have r0 := r.call x0
    have s0 := x0.stp
    refine ⟨fun i mm σ' H' => ∃ sc' hc' m', Rs X.K en σ' H' sc' hc' m' ∧ Stp H0 m0 H' m' ∧ mm = ds.length - i ∧ i ≤ ds.length ∧ forW g c (ds.drop i) C sc' hc', ⟨_, sc, hc0, m0, r0, .refl, rfl, Nat.zero_le _, k0⟩, ?_⟩
    rintro i mm σ1 H1 ⟨sc1, hc1, m1, r1, s1, rfl, hi, k1⟩
    obtain ⟨yg, ys⟩ := yl H1 m1 r1.mu s1 i
    by_cases lt : i < ds.length
    · rw [List.drop_eq_getElem_cons lt] at k1
      obtain ⟨go, yy⟩ := yg _ (List.getElem?_eq_getElem lt)
      refine .inr ⟨go, fun σ' H' => ∃ sc' hc' m', Rs X.K en σ' H' sc' hc' m' ∧ Stp H0 m0 H' m' ∧ forW g c (ds.drop (i + 1)) C sc' hc', fun σ' H' ⟨sc', hc', m', r', s', k'⟩ => ⟨ds.length - (i + 1), by omega, sc', hc', m', r', s', rfl, lt, k'⟩, fun x H2 y => ?_⟩
      obtain ⟨sm, q⟩ := yy x H2 y
      have s2 := s1.trans (.same sm)
      refine ⟨en, sc1, hc1, m1, C.xp, _, _, r1.same sm, q, k1, f.xp, fun sc2 hc2 k2 σ2 H3 m3 r3 s3 => ?_⟩
      have s23 := s2.trans s3
      exact ⟨en, sc2, hc2, m3, _, r3, k2, ⟨fun sc' hc' p' σ' H' m' r' s' => ⟨sc', hc', m', r', s23.trans s', p'⟩, f.nx.step (s0.trans s23), fun sc' hc' p' σ' H' m' r' s' => ⟨sc', hc', m', r', s23.trans s', p'⟩, f.rt, f.xp⟩⟩
    · have e : i = ds.length := by omega
      rw [List.drop_eq_nil_of_le (by omega)] at k1
      exact .inl ⟨ys (by omega), f.nx sc1 hc1 k1 σ1 H1 m1 r1 (s0.trans s1)⟩⟩
/-- over a list (a tuple): a value -/
def cItL (ce : CEx) : CIx := fun E sc hc P => ce E sc hc fun d hc1 => match d with | .lst xs => P xs hc1 | _ => False
def cItT (ce : CEx) : CIx := fun E sc hc P => ce E sc hc fun d hc1 => match d with | .tup xs => P xs hc1 | _ => False
theorem ci_l (h : CE X W e ce) : CI X W tg e (cItL ce) := ⟨pi_wk (pi_list h.p) fun σ H R ⟨en, sc, hc, m, E, P, r, k, xo, fin⟩ =>
  ⟨en, sc, hc, m, E, _, r, k, xo, fun d hc1 p v H1 m1 x1 q => by
    have r1 := r.call x1
    cases d <;> try exact p.elim
    rename_i xs
    unfold Rep at q
    obtain ⟨a, vs, rfl, na, q1, q2⟩ := q
    refine ⟨a, rfl, ⟨vs, .of q1⟩, fin xs hc1 p _ H1 m1 x1 fun H2 m2 mo s2 i => ⟨fun d e => ?_, fun hl => ⟨vs, .of (s2.keep _ _ q1 trivial na), by rw [← q2.length]; exact hl⟩⟩⟩
    obtain ⟨w, e1, q3⟩ := q2.get e
    have hq := SqL.of (K := X.K) (s2.keep _ _ q1 trivial na)
    refine ⟨⟨vs, w, hq, e1⟩, fun x H3 y => ?_⟩
    obtain ⟨e3, y⟩ := y
    have e4 := y vs hq
    rw [e1] at e4; cases e4
    subst e3
    exact ⟨.refl _, Rep.mono r1.mu s2 _ _ q3⟩⟩⟩
theorem ci_t (h : CE X W e ce) : CI X W tg e (cItT ce) := ⟨pi_wk (pi_tup h.p) fun σ H R ⟨en, sc, hc, m, E, P, r, k, xo, fin⟩ =>
  ⟨en, sc, hc, m, E, _, r, k, xo, fun d hc1 p v H1 m1 x1 q => by
    have r1 := r.call x1
    cases d <;> try exact p.elim
    rename_i xs
    unfold Rep at q
    obtain ⟨a, vs, rfl, q1, q2⟩ := q
    refine ⟨a, rfl, ⟨vs, q1⟩, fin xs hc1 p _ H1 m1 x1 fun H2 m2 mo s2 i => ⟨fun d e => ?_, fun hl => ⟨vs, sqt_step r1.mu s2 q1, by rw [← q2.length]; exact hl⟩⟩⟩
    obtain ⟨w, e1, q3⟩ := q2.get e
    have hq := sqt_step r1.mu s2 q1
    refine ⟨⟨vs, w, hq, e1⟩, fun x H3 y => ?_⟩
    obtain ⟨e3, y⟩ := y
    have e4 := y vs hq
    rw [e1] at e4; cases e4
    subst e3
    exact ⟨.refl _, Rep.mono r1.mu s2 _ _ q3⟩⟩⟩
def rngD (lo hi : Int) : List D := (List.range (hi - lo).toNat).map fun k : Nat => D.int (lo + (k : Int))
theorem rng_yields {K : PySem.W.Frag} {H : Hp} {m : Ms} (lo hi : Int) : Yields K (Itr lo (hi - lo).toNat) (rngD lo hi) H m := fun H2 m2 mo s2 i => by
  refine ⟨fun d e => ?_, fun hl => ?_⟩
  · unfold rngD at e
    rw [List.getElem?_map] at e
    by_cases lt : i < (hi - lo).toNat
    · rw [List.getElem?_range lt] at e
      cases e
      refine ⟨lt, fun x H3 y => ?_⟩
      obtain ⟨e1, e2⟩ := y
      subst e1; subst e2
      exact ⟨.refl _, rep_int⟩
    · rw [List.getElem?_eq_none (by rw [List.length_range]; omega)] at e
      cases e
  · unfold rngD at hl
    rw [List.length_map, List.length_range] at hl
    exact hl
def cR1 (ca : CAx) : CIx := fun E sc hc P => ca E sc hc fun ds hc1 => match ds with | [.int hi] => P (rngD 0 hi) hc1 | _ => False
def cR2 (ca : CAx) : CIx := fun E sc hc P => ca E sc hc fun ds hc1 => match ds with | [.int lo, .int hi] => P (rngD lo hi) hc1 | _ => False
theorem ci_r1 {p2 : Pos} (hm : X.mg "range" = none) (h : CA X W [e] ca) (hg : Gl X "range" := by rfl) (hs : starEach [e] X.env = [(false, eval e X.env)] := by rfl) : CI X W tg (.Call (.Name "range" p2) [e] [] pos) (cR1 ca) := ⟨pi_wk (piR1 hg hm h.p hs) fun σ H R ⟨en, sc, hc, m, E, P, r, k, xo, fin⟩ =>
  ⟨en, sc, hc, m, E, _, r, k, xo, fun ds hc1 p vs H1 m1 x1 q => by
    split at p
    · unfold RepL at q
      obtain ⟨v, _, rfl, q1, q⟩ := q
      unfold RepL at q; unfold Rep at q1
      subst q; subst q1
      rename_i hi
      refine ⟨hi, rfl, ?_⟩
      have z : (hi - 0).toNat = hi.toNat := by rw [Int.sub_zero]
      have yl := rng_yields (K := X.K) (H := H1) (m := m1) 0 hi
      rw [z] at yl
      exact fin _ hc1 p _ H1 m1 x1 yl
    · exact p.elim⟩⟩
theorem ci_r2 {e2 : Expr} {p2 : Pos} (hm : X.mg "range" = none) (h : CA X W [e, e2] ca) (hg : Gl X "range" := by rfl) (hs : starEach [e, e2] X.env = [(false, eval e X.env), (false, eval e2 X.env)] := by rfl) (hs2 : starEach [e2] X.env = [(false, eval e2 X.env)] := by rfl) : CI X W tg (.Call (.Name "range" p2) [e, e2] [] pos) (cR2 ca) := ⟨pi_wk (piR2 hg hm h.p hs hs2) fun σ H R ⟨en, sc, hc, m, E, P, r, k, xo, fin⟩ =>
  ⟨en, sc, hc, m, E, _, r, k, xo, fun ds hc1 p vs H1 m1 x1 q => by
    split at p
    · unfold RepL at q
      obtain ⟨v, _, rfl, q1, q⟩ := q
      unfold RepL at q
      obtain ⟨v2, _, rfl, q2, q⟩ := q
      unfold RepL at q; unfold Rep at q1 q2
      subst q; subst q1; subst q2
      exact ⟨_, _, rfl, fin _ hc1 p _ H1 m1 x1 (rng_yields _ _)⟩
    · exact p.elim⟩⟩
end
end Mn

namespace Mn
open PySem PySem.Spec PyProof.Rows L2
/-! ### comprehensions -/
def wipeC (sc : List Sl) : List Nat → List Sl
  | [] => sc
  | v :: vs => (wipeC sc vs).set v .un
theorem wipeC_len (sc : List Sl) : ∀ vs : List Nat, (wipeC sc vs).length = sc.length
  | [] => rfl
  | v :: vs => by unfold wipeC; rw [List.length_set, wipeC_len sc vs]
theorem wipeC_get {sc : List Sl} {i : Nat} {x : Sl} : ∀ {vs : List Nat}, (wipeC sc vs)[i]? = some x → x ≠ .un → sc[i]? = some x ∧ i ∉ vs
  | [], h, _ => ⟨h, by simp⟩
  | v :: vs, h, hx => by
    unfold wipeC at h
    by_cases hi : v = i
    · subst hi
      by_cases l : v < (wipeC sc vs).length
      · rw [List.getElem?_set_self l] at h; cases h; exact absurd rfl hx
      · rw [List.getElem?_eq_none (by rw [List.length_set]; omega)] at h; cases h
    · rw [List.getElem?_set_ne hi] at h
      obtain ⟨a, b⟩ := wipeC_get h hx
      exact ⟨a, fun z => by rcases List.mem_cons.mp z with z | z; exact hi z.symm; exact b z⟩
theorem wipe_get {σ : L2.St} {i : Nat} : ∀ {vs : List Nat}, i ∉ vs → (wipe σ vs)[i]? = σ[i]?
  | [], _ => rfl
  | v :: vs, h => by
    unfold wipe
    rw [List.getElem?_set_ne (fun z => h (by rw [z]; exact List.mem_cons_self)), wipe_get (fun z => h (List.mem_cons_of_mem _ z))]
theorem Rs.wipe {K : PySem.W.Frag} {en : En} {σ : L2.St} {H : Hp} {sc : List Sl} {hc : CH} {m : Ms} (r : Rs K en σ H sc hc m) (vs : List Nat) : Rs K en (L2.wipe σ vs) H (wipeC sc vs) hc m := by
  refine ⟨r.toEx, fun i d e => ?_, fun i ds e => ?_, fun i j ds es p e1 e2 e3 e4 => ?_, by rw [wipeC_len, wipe_length]; exact r.len⟩
  · obtain ⟨a, b⟩ := wipeC_get e (fun z => nomatch z)
    rw [wipe_get b]
    exact r.slot i d a
  · obtain ⟨a, b⟩ := wipeC_get e (fun z => nomatch z)
    rw [wipe_get b]
    exact r.own i ds a
  · obtain ⟨a, b⟩ := wipeC_get e1 (fun z => nomatch z)
    obtain ⟨a2, b2⟩ := wipeC_get e2 (fun z => nomatch z)
    rw [wipe_get b] at e3
    rw [wipe_get b2] at e4
    exact r.sep i j ds es p a a2 e3 e4
/-- a comprehension's target: names of its own -/
def LGk (X : Cx) (W : WX) (vs : List Nat) (g : CGx) : TG := fun v σ H Q => ∃ en sc hc m E d P, Rs X.K en σ H sc hc m ∧ Rep X.K H m d v ∧ g E d sc hc P ∧ XOk X W en E ∧
  ∀ sc' hc', P sc' hc' → ∀ σ', Rs X.K en σ' H sc' hc' m → hc' = hc → L2.wipe σ' vs = L2.wipe σ vs → Q σ' H
structure CGk (X : Cx) (W : WX) (vs : List Nat) (e : Expr) (g : CGx) : Prop where
  p : PG X e (LGk X W vs g)
def LGsk (X : Cx) (W : WX) (vs : List Nat) (g : CGsx) : TGs := fun ws σ H Q => ∃ en sc hc m E ds P, Rs X.K en σ H sc hc m ∧ RepL X.K H m ds ws ∧ g E ds sc hc P ∧ XOk X W en E ∧
  ∀ sc' hc', P sc' hc' → ∀ σ', Rs X.K en σ' H sc' hc' m → hc' = hc → L2.wipe σ' vs = L2.wipe σ vs → Q σ' H
structure CGsk (X : Cx) (W : WX) (vs : List Nat) (es : List Expr) (g : CGsx) : Prop where
  p : PGs X es (LGsk X W vs g)
theorem wipe_in {j : Nat} : ∀ {vs : List Nat} (τ : L2.St), j ∈ vs → (L2.wipe τ vs)[j]? = if j < τ.length then some none else none
  | [], _, h => by simp at h
  | a :: r, τ, h => by
    unfold L2.wipe
    by_cases ha : a = j
    · subst ha
      by_cases l : a < τ.length
      · rw [if_pos l, List.getElem?_set_self (by rw [wipe_length]; exact l)]
      · rw [if_neg l, List.getElem?_eq_none (by rw [List.length_set, wipe_length]; omega)]
    · rw [List.getElem?_set_ne ha]
      rcases List.mem_cons.mp h with z | z
      · exact absurd z.symm ha
      · exact wipe_in τ z
theorem wipe_set {σ : L2.St} {i : Nat} {v : Option V} {vs : List Nat} (h : i ∈ vs) : L2.wipe (σ.set i v) vs = L2.wipe σ vs := by
  refine List.ext_getElem? fun j => ?_
  by_cases hj : j ∈ vs
  · rw [wipe_in _ hj, wipe_in _ hj, List.length_set]
  · rw [wipe_get hj, wipe_get hj, List.getElem?_set_ne (fun z => hj (by rw [← z]; exact h))]
section
variable {X : Cx} {W : WX} {a b e tg iter elt : Expr} {es ifs : List Expr} {ca cb ce : CEx} {ct : CTx} {c : CAx} {pos : Pos} {vs : List Nat}
theorem wipe_idem (σ : L2.St) (vs : List Nat) : L2.wipe (L2.wipe σ vs) vs = L2.wipe σ vs := by
  refine List.ext_getElem? fun j => ?_
  by_cases hj : j ∈ vs
  · rw [wipe_in _ hj, wipe_in _ hj, wipe_length]
  · rw [wipe_get hj]
theorem cgk_n (i : Nat) {x : Str} (hN : X.N.Nodup) (hm : i ∈ vs := by decide) (hi : X.N[i]? = some x := by rfl) (hx : Loc X.env.scope x := by first | exact Or.inl rfl | exact Or.inr rfl) (hf : X.fn x = true ∨ X.env.scope.names.lookup x = some .local := by first | exact .inl rfl | exact .inr rfl) : CGk X W vs (.Name x pos) (gN i) :=
  ⟨pg_wk (pg_name hN hi hx hf) fun v σ H Q ⟨en, sc, hc, m, E, d, P, r, q, k, xo, f⟩ => f _ hc k _ (r.put i q) rfl (wipe_set hm)⟩
theorem cgsk_nil : CGsk X W vs [] gNil' := ⟨pgs_wk pgs_nil fun ws σ H Q ⟨en, sc, hc, m, E, ds, P, r, q, k, xo, f⟩ => by
  cases ds with
  | nil => unfold RepL at q; subst q; exact ⟨rfl, f sc hc k σ r rfl rfl⟩
  | cons d ds => exact k.elim⟩
theorem cgsk_cons {g : CGx} {gs : CGsx} (h1 : CGk X W vs e g) (h2 : CGsk X W vs es gs) (hs : (assignEach (e :: es) X.env).map (·.2) = assign e X.env :: (assignEach es X.env).map (·.2) := by rfl) : CGsk X W vs (e :: es) (gCons' g gs) :=
  ⟨pgs_wk (pgs_cons h1.p h2.p hs) fun ws σ H Q ⟨en, sc, hc, m, E, ds, P, r, q, k, xo, f⟩ => by
    cases ds with
    | nil => exact k.elim
    | cons d ds =>
      unfold RepL at q
      obtain ⟨v, vr, rfl, q1, q2⟩ := q
      exact ⟨v, vr, rfl, en, sc, hc, m, E, d, _, r, q1, k, xo, fun sc1 hc1 k1 σ1 r1 e1 w1 => ⟨en, sc1, hc1, m, E, ds, P, r1, q2, k1, xo, fun sc2 hc2 k2 σ2 r2 e2 w2 => f sc2 hc2 k2 σ2 r2 (e2.trans e1) (w2.trans w1)⟩⟩⟩
theorem cgk_t {gs : CGsx} {n k : Nat} (hc : X.calm = true) (h : CGsk X W vs es gs) (hn : (assignEach es X.env).length = n := by rfl) (hst : (assignEach es X.env).findIdx? (·.1) = none := by rfl) : CGk X W vs (.Tuple es k pos) (gTup' n gs) :=
  ⟨pg_wk (pg_tup hc h.p hn hst) fun v σ H Q ⟨en, sc, hc, m, E, d, P, r, q, k, xo, f⟩ => by
    cases d <;> try exact k.elim
    unfold Rep at q
    obtain ⟨p, ws, rfl, q1, q2⟩ := q
    exact ⟨p, ws, rfl, q1, by rw [← q2.length]; exact k.1, en, sc, hc, m, E, _, P, r, q2, k.2, xo, f⟩⟩
/-- the comprehension's turns -/
def lcW (g : CGx) (t : CTx) (ce : CEx) (own : List Nat) (sc : List Sl) : List D → List D → CH → (List D → CH → Prop) → Prop
  | [], acc, hc, P => P acc hc
  | d :: ds, acc, hc, P => g (fun _ _ _ => False) d (wipeC sc own) hc fun sc1 hc1 => t (fun _ _ _ => False) sc1 hc1 fun b hc2 =>
    if b = true then ce (fun _ _ _ => False) sc1 hc2 fun y hc3 => lcW g t ce own sc ds (acc ++ [y]) hc3 P else lcW g t ce own sc ds acc hc2 P
def cLc (ci : CIx) (g : CGx) (t : CTx) (ce : CEx) (own : List Nat) : CEx := fun E sc hc P => ci E sc hc fun ds hc1 => ds.length ≤ sizeLine ∧ lcW g t ce own sc ds [] hc1 fun out hc2 => P (.lst out) hc2
structure CTs (X : Cx) (W : WX) (es : List Expr) (c : CTx) : Prop where
  p : PTs X es (LT X W c)
def cYes : CTx := fun _ _ hc P => P true hc
theorem cts_nil : CTs X W [] cYes := ⟨⟨fun pins s σ H Q I ⟨en, sc, hc, m, E, P, r, k, xo, fin⟩ => pts_nil.run pins s σ H Q I (fin _ hc k H m (.refl r.toWd))⟩⟩
theorem cts_one (h : CT X W e ct) : CTs X W [e] ct := ⟨pts_one h.p⟩
theorem lc_gen {ci : CIx} {g : CGx} {σ : L2.St} {H : Hp} {Q : VK} {en : En} {sc : List Sl} {hc : CH} {m : Ms} {E : XP} {P : List D → CH → Prop} (r : Rs X.K en σ H sc hc m)
    (k : ci E sc hc fun ds hc1 => ds.length ≤ sizeLine ∧ lcW g ct ce vs sc ds [] hc1 P) (xo : XOk X W en E)
    (fin : ∀ acc hc', P acc hc' → ∀ L H' m' ws, Ex X.K ⟨H, hc, m⟩ H' hc' m' → m' L → hc' L = none → H' L = some (.lst ws) → RepL X.K H' m' acc ws → H L = none → Q (.ref L) H')
    : tLc (LI X W ci) (LGk X W0 vs g) (LT X W0 ct) (LE X W0 ce) vs σ H Q := by
  refine ⟨en, sc, hc, m, E, _, r, k, xo, fun ds hc1 ⟨lz, k1⟩ J H1 m1 x1 yl L nL => ?_⟩
  have hx : XOk X W0 en (fun _ _ _ => False) := fun _ _ _ z => z.elim
  have w1 : Wd X.K H1 hc1 m1 := x1.toWd
  have hL : hc1 L = none := hc_none w1 nL
  have nm : ¬ m1 L := fun z => by obtain ⟨us, e⟩ := w1.mu L z; rw [nL] at e; cases e
  have st0 : Stp H1 m1 (upd H1 L (.lst [])) (fun a => m1 a ∨ a = L) := ⟨fun a o e _ _ => same_upd nL a o e, fun a z => z.elim .inl fun e => .inr (by rw [e]; exact nL), fun a o e => by rw [same_upd nL a o e]; simp⟩
  have ex0 : Ex X.K ⟨H1, hc1, m1⟩ (upd H1 L (.lst [])) hc1 (fun a => m1 a ∨ a = L) := by
    refine ⟨⟨tabs_put w1.tab (.inl nL), fun a z => ?_, fun a es e => .inl (w1.hm a es e), fun a es e => ?_⟩, w1.mu, w1.hm, fun a o e _ _ => same_upd nL a o e, st0.grow, fun a z _ => .inl z, fun a es e => .inl (by show hc1 a ≠ none; rw [e]; simp), fun a o e => by rw [same_upd nL a o e]; simp⟩
    · rcases z with z | rfl
      · obtain ⟨ws, e⟩ := w1.mu a z
        exact ⟨ws, same_upd nL _ _ e⟩
      · exact ⟨[], upd_same⟩
    · obtain ⟨ws, e1, q1⟩ := w1.heap a es e
      exact ⟨ws, same_upd nL _ _ e1, RepL.mono w1.mu st0 _ _ q1⟩
  refine ⟨fun i mm H' => ∃ hc' m' acc ws, Ex X.K ⟨H1, hc1, m1⟩ H' hc' m' ∧ m' L ∧ hc' L = none ∧ H' L = some (.lst ws) ∧ RepL X.K H' m' acc ws ∧ mm = ds.length - i ∧ i ≤ ds.length ∧ acc.length ≤ i ∧ lcW g ct ce vs sc (ds.drop i) acc hc' P,
    ⟨_, hc1, _, [], [], ex0, .inr rfl, hL, upd_same, RepL.nil, rfl, Nat.zero_le _, Nat.le_refl _, k1⟩, ?_⟩
  rintro i mm H' ⟨hc', m', acc, ws, x', mL, hL', HL, ra, rfl, hi, hacc, k'⟩
  have xx : Ex X.K ⟨H, hc, m⟩ H' hc' m' := x1.trans x'
  have r' := r.call xx
  obtain ⟨yg, ys⟩ := yl H' m' x'.mu x'.stp i
  by_cases lt : i < ds.length
  · rw [List.drop_eq_getElem_cons lt] at k'
    obtain ⟨go, yy⟩ := yg _ (List.getElem?_eq_getElem lt)
    refine .inr ⟨go, fun H2 => ∃ hc2 m2 acc ws, Ex X.K ⟨H1, hc1, m1⟩ H2 hc2 m2 ∧ m2 L ∧ hc2 L = none ∧ H2 L = some (.lst ws) ∧ RepL X.K H2 m2 acc ws ∧ acc.length ≤ i + 1 ∧ lcW g ct ce vs sc (ds.drop (i + 1)) acc hc2 P,
      fun H2 ⟨hc2, m2, acc, ws, a1, a2, a3, a4, a5, a6, a7⟩ => ⟨ds.length - (i + 1), by omega, hc2, m2, acc, ws, a1, a2, a3, a4, a5, rfl, lt, a6, a7⟩, fun x H2 y => ?_⟩
    obtain ⟨sm, q⟩ := yy x H2 y
    have xs2 : Ex X.K ⟨H', hc', m'⟩ H2 hc' m' := Ex.same x'.toWd sm
    have r2 := (r'.same sm).wipe vs
    refine ⟨en, wipeC sc vs, hc', m', (fun _ _ _ => False), ds[i], _, r2, q, k', hx, fun sc3 hc3 k3 σ3 r3 e3 w3 => ⟨by rw [w3]; exact wipe_idem _ _, ?_⟩⟩
    subst e3
    refine ⟨en, sc3, hc3, m', _, _, r3, k3, hx, fun b hc4 k4 H4 m4 x4 => ?_⟩
    have e34 : Ex X.K ⟨H1, hc1, m1⟩ H4 hc4 m4 := (x'.trans xs2).trans x4
    have keepL : ∀ {Hb : Hp} {hcb : CH} {mb : Ms}, Ex X.K ⟨H', hc3, m'⟩ Hb hcb mb → mb L ∧ hcb L = none ∧ Hb L = some (.lst ws) ∧ RepL X.K Hb mb acc ws := fun {Hb hcb mb} x => by
      refine ⟨x.hold L mL hL', ?_, x.keep L _ HL trivial hL', RepL.mono x'.mu x.stp _ _ ra⟩
      cases e : hcb L with
      | none => rfl
      | some es =>
        rcases x.hgrow L es e with y | y
        · exact absurd hL' y
        · have y' : H' L = none := y
          rw [HL] at y'; cases y'
    cases b with
    | true =>
      rw [if_pos rfl] at k4
      refine iteT ⟨en, sc3, hc4, m4, _, _, r3.call x4, k4, hx, fun y hc5 k5 v H5 m5 x5 q5 => ?_⟩
      obtain ⟨b1, b2, b3, b4⟩ := keepL ((xs2.trans x4).trans x5)
      have e5 : Ex X.K ⟨H1, hc1, m1⟩ H5 hc5 m5 := e34.trans x5
      have lw : ws.length = acc.length := b4.length.symm
      refine ⟨ws, b3, by omega, hc5, m5, acc ++ [y], ws ++ [v], ?_⟩
      have st : Stp H5 m5 (upd H5 L (.lst (ws ++ [v]))) m5 := ⟨fun a o e _ n => by rw [upd_ne (fun z => n (by rw [z]; exact b1))]; exact e, fun _ h => .inl h, fun p o e => upd_some e⟩
      refine ⟨⟨⟨tabs_put e5.tab (.inr ⟨_, b3⟩), fun a z => ?_, e5.hm, fun a es e => ?_⟩, w1.mu, w1.hm, fun a o e t n => ?_, e5.grow, e5.hold, e5.hgrow, fun a o e => ?_⟩, b1, b2, upd_same, RepL.mono e5.mu st _ _ (b4.append (RepL.one q5)), by rw [List.length_append]; simp; omega, k5⟩
      · by_cases h : a = L
        · subst h; exact ⟨_, upd_same⟩
        · rw [upd_ne h]; exact e5.mu a z
      · have h : a ≠ L := fun z => by rw [z, b2] at e; cases e
        obtain ⟨us, e1, q1⟩ := e5.heap a es e
        exact ⟨us, by rw [upd_ne h]; exact e1, RepL.mono e5.mu st _ _ q1⟩
      · rw [upd_ne (fun z => by rw [z] at e; have e' : H1 L = some o := e; rw [nL] at e'; cases e')]
        exact e5.keep a o e t n
      · by_cases h : a = L
        · subst h; rw [upd_same]; simp
        · rw [upd_ne h]; exact e5.live a o e
    | false =>
      rw [if_neg Bool.false_ne_true] at k4
      obtain ⟨b1, b2, b3, b4⟩ := keepL (xs2.trans x4)
      exact iteF ⟨hc4, m4, acc, ws, e34, b1, b2, b3, b4, by omega, k4⟩
  · have e : i = ds.length := by omega
    rw [List.drop_eq_nil_of_le (by omega)] at k'
    refine .inl ⟨ys (by omega), ?_⟩
    have xa : Ex X.K ⟨H, hc, m⟩ H' hc' m' := xx
    have hH : H L = none := by
      cases e : H L with
      | none => rfl
      | some o => exact absurd nL (x1.live L o e)
    exact fin acc hc' k' L H' m' ws xa mL hL' HL ra hH
theorem lc_lift {ci : CIx} {g : CGx} {σ : L2.St} {H : Hp} {Q : VK} (h : LE X W (cLc ci g ct ce vs) σ H Q) : tLc (LI X W ci) (LGk X W0 vs g) (LT X W0 ct) (LE X W0 ce) vs σ H Q := by
  obtain ⟨en, sc, hc, m, E, P, r, k, xo, fin⟩ := h
  refine lc_gen r k xo fun acc hc' k' L H' m' ws xa mL hL' HL ra hH => ?_
  obtain ⟨x6, st6⟩ := xa.drop (p := L) hH hL'
  refine fin _ hc' k' _ H' _ x6 ?_
  unfold Rep
  exact ⟨L, ws, rfl, fun z => z.2 rfl, HL, RepL.mono xa.mu st6 _ _ ra⟩
/-- the same, a list that will be changed -/
def cLcM (ci : CIx) (g : CGx) (t : CTx) (ce : CEx) (own : List Nat) : CEx := fun E sc hc P => ci E sc hc fun ds hc1 => ds.length ≤ sizeLine ∧ lcW g t ce own sc ds [] hc1 fun out hc2 => ∀ p, hc2 p = none → P (.ref p) (updc hc2 p out)
theorem lc_liftM {ci : CIx} {g : CGx} {σ : L2.St} {H : Hp} {Q : VK} (h : LE X W (cLcM ci g ct ce vs) σ H Q) : tLc (LI X W ci) (LGk X W0 vs g) (LT X W0 ct) (LE X W0 ce) vs σ H Q := by
  obtain ⟨en, sc, hc, m, E, P, r, k, xo, fin⟩ := h
  refine lc_gen r k xo fun acc hc' k' L H' m' ws xa mL hL' HL ra hH => ?_
  refine fin _ _ (k' L hL') _ H' m' ⟨⟨xa.tab, xa.mu, fun a es e => ?_, fun a es e => ?_⟩, xa.emut, xa.ehm, xa.keep, xa.grow, xa.hold, fun a es e => ?_, xa.live⟩ (by unfold Rep; rfl)
  · unfold updc at e
    by_cases ha : a = L
    · rw [ha]; exact mL
    · rw [if_neg ha] at e; exact xa.hm a es e
  · unfold updc at e
    by_cases ha : a = L
    · rw [if_pos ha] at e; cases e
      subst ha
      exact ⟨ws, HL, ra⟩
    · rw [if_neg ha] at e; exact xa.heap a es e
  · unfold updc at e
    by_cases ha : a = L
    · rw [ha]; exact .inr hH
    · rw [if_neg ha] at e; exact xa.hgrow a es e

theorem ce_lc {ci : CIx} {g : CGx} {scope : Scope} {own : List (Str × Nat)} (hc : X.calm = true) (hN : X.N.Nodup) (hi : CI X W tg iter ci) (ok : BlkOk X.N X.env.scope scope own)
    (hg : ∀ (s : Shared) (H : Hp) (C : Addr) (cl : List (Str × Addr)) (fp : List Addr), CGk (X.blk s H scope (compEnvC scope cl C X.env) fp) W0 (own.map (·.2)) tg g)
    (ht : ∀ (s : Shared) (H : Hp) (C : Addr) (cl : List (Str × Addr)) (fp : List Addr), CTs (X.blk s H scope (compEnvC scope cl C X.env) fp) W0 ifs ct)
    (he : ∀ (s : Shared) (H : Hp) (C : Addr) (cl : List (Str × Addr)) (fp : List Addr), CE (X.blk s H scope (compEnvC scope cl C X.env) fp) W0 elt ce) (hs : ∀ x, foldedSetIterable iter X.env x = pure x := by intro _; rfl) :
    CE X W (.ListComp elt [⟨tg, iter, ifs, 0⟩] scope pos) (cLc ci g ct ce (own.map (·.2))) :=
  ⟨pe_wk (pe_lc (g := LGk X W0 (List.map (fun p : Str × Nat => p.2) own) g) (tt := LT X W0 ct) (te := LE X W0 ce) hc hN hi.p ok (fun s H C cl fp => (hg s H C cl fp).p) (fun s H C cl fp => (ht s H C cl fp).p) (fun s H C cl fp => (he s H C cl fp).p) hs) fun σ H Q h => lc_lift h⟩
theorem ce_lcM {ci : CIx} {g : CGx} {scope : Scope} {own : List (Str × Nat)} (hc : X.calm = true) (hN : X.N.Nodup) (hi : CI X W tg iter ci) (ok : BlkOk X.N X.env.scope scope own)
    (hg : ∀ (s : Shared) (H : Hp) (C : Addr) (cl : List (Str × Addr)) (fp : List Addr), CGk (X.blk s H scope (compEnvC scope cl C X.env) fp) W0 (own.map (·.2)) tg g)
    (ht : ∀ (s : Shared) (H : Hp) (C : Addr) (cl : List (Str × Addr)) (fp : List Addr), CTs (X.blk s H scope (compEnvC scope cl C X.env) fp) W0 ifs ct)
    (he : ∀ (s : Shared) (H : Hp) (C : Addr) (cl : List (Str × Addr)) (fp : List Addr), CE (X.blk s H scope (compEnvC scope cl C X.env) fp) W0 elt ce) (hs : ∀ x, foldedSetIterable iter X.env x = pure x := by intro _; rfl) :
    CE X W (.ListComp elt [⟨tg, iter, ifs, 0⟩] scope pos) (cLcM ci g ct ce (own.map (·.2))) :=
  ⟨pe_wk (pe_lc (g := LGk X W0 (List.map (fun p : Str × Nat => p.2) own) g) (tt := LT X W0 ct) (te := LE X W0 ce) hc hN hi.p ok (fun s H C cl fp => (hg s H C cl fp).p) (fun s H C cl fp => (ht s H C cl fp).p) (fun s H C cl fp => (he s H C cl fp).p) hs) fun σ H Q h => lc_liftM h⟩
/-- x = [.. for ..] on one line, x a plain local -/
theorem cs_lc {i : Nat} {y : Str} {py : Pos} {sp2 : Pos} {ci : CIx} {g : CGx} {scope : Scope} {own : List (Str × Nat)} (hc : X.calm = true) (hN : X.N.Nodup) (hi : CI X W tg iter ci) (ok : BlkOk X.N X.env.scope scope own)
    (hg : ∀ (s : Shared) (H : Hp) (C : Addr) (cl : List (Str × Addr)) (fp : List Addr), CGk (X.blk s H scope (compEnvC scope cl C X.env) fp) W0 (own.map (·.2)) tg g)
    (ht : ∀ (s : Shared) (H : Hp) (C : Addr) (cl : List (Str × Addr)) (fp : List Addr), CTs (X.blk s H scope (compEnvC scope cl C X.env) fp) W0 ifs ct)
    (he : ∀ (s : Shared) (H : Hp) (C : Addr) (cl : List (Str × Addr)) (fp : List Addr), CE (X.blk s H scope (compEnvC scope cl C X.env) fp) W0 elt ce) (hy : X.N[i]? = some y := by rfl) (hyl : X.env.scope.names.lookup y = some .local := by rfl)
    (hsw : swapsWith (.ListComp elt [⟨tg, iter, ifs, 0⟩] scope pos) (some (.Name y py)) sp2.line X.env = pure true := by exact sw_true rfl rfl rfl (by decide +kernel)) (hs : ∀ x, foldedSetIterable iter X.env x = pure x := by intro _; rfl) :
    CS X W (.Assign [.Name y py] (.ListComp elt [⟨tg, iter, ifs, 0⟩] scope pos) sp2) (cAsg (cLc ci g ct ce (own.map (·.2))) (gN i)) :=
  ⟨ps_wk (ps_setLc (i := i) (g := LGk X W0 (List.map (fun p : Str × Nat => p.2) own) g) (tt := LT X W0 ct) (te := LE X W0 ce) hc hN hy hyl hsw hi.p ok (fun s H C cl fp => (hg s H C cl fp).p) (fun s H C cl fp => (ht s H C cl fp).p) (fun s H C cl fp => (he s H C cl fp).p) hs) fun D σ H h => by
    obtain ⟨en, sc, hc', m, C, r, k, f⟩ := h
    exact lc_lift ⟨en, sc, hc', m, C.xp, _, r, k, f.xp, fun d hc1 p v H1 m1 x1 q => f.nx _ hc1 p _ H1 m1 ((r.call x1).put i q) x1.stp⟩⟩
end
end Mn

namespace Mn
open PySem PySem.Spec PyProof.Rows L2
/-! ### built-ins -/
theorem wl1 {K : PySem.W.Frag} {H : Hp} {m : Ms} {d : D} {xs : List V} (h : RepWL K H m [d] xs) : ∃ x, xs = [x] ∧ RepW K H m d x := by
  cases h with
  | cons a t => cases t; exact ⟨_, rfl, a⟩
theorem wl2 {K : PySem.W.Frag} {H : Hp} {m : Ms} {d e : D} {xs : List V} (h : RepWL K H m [d, e] xs) : ∃ x y, xs = [x, y] ∧ RepW K H m d x ∧ RepW K H m e y := by
  cases h with
  | cons a t =>
    obtain ⟨y, rfl, b⟩ := wl1 t
    exact ⟨_, _, rfl, a, b⟩
section
variable {X : Cx}
def absD : On := fun ds _ P => match ds with | [.int i] => P (.int (if i < 0 then -i else i)) | _ => False
theorem bf_abs : CallR X (.builtin "abs") (LVn X.K absD) := by
  intro pins s σ H xs us Q I r h
  obtain ⟨hc, m, ds, P, w, h1, f, fin⟩ := h
  unfold absD at f
  split at f
  · obtain ⟨x, rfl, k1⟩ := wl1 h1
    unfold RepW Rep at k1
    subst k1
    exact call_abs pins s σ H _ us Q I r ⟨_, rfl, fin _ f _ _ (.refl H) rep_int⟩
  · exact f.elim
def intFD : On := fun ds _ P => match ds with | [.int i] => P (.int i) | [.bl b] => P (.int (if b then 1 else 0)) | _ => False
theorem bt_int : CallR X (.type "int") (LVn X.K intFD) := by
  intro pins s σ H xs us Q I r h
  obtain ⟨hc, m, ds, P, w, h1, f, fin⟩ := h
  unfold intFD at f
  split at f
  · obtain ⟨x, rfl, k1⟩ := wl1 h1
    unfold RepW Rep at k1
    subst k1
    exact call_int1 pins s σ H _ us Q I r (.inl ⟨_, rfl, fin _ f _ _ (.refl H) rep_int⟩)
  · obtain ⟨x, rfl, k1⟩ := wl1 h1
    unfold RepW Rep at k1
    subst k1
    exact call_int1 pins s σ H _ us Q I r (.inr ⟨_, rfl, fin _ f _ _ (.refl H) rep_int⟩)
  · exact f.elim
def maxD2 : On := fun ds _ P => match ds with | [.int i, .int j] => P (.int (if j > i then j else i)) | _ => False
def minD2 : On := fun ds _ P => match ds with | [.int i, .int j] => P (.int (if j < i then j else i)) | _ => False
theorem bf_max2 (hc : X.calm = true) : CallR X (.builtin "max") (LVn X.K maxD2) := by
  intro pins s σ H xs us Q I r h
  obtain ⟨hc', m, ds, P, w, h1, f, fin⟩ := h
  unfold maxD2 at f
  split at f
  · obtain ⟨x, y, rfl, k1, k2⟩ := wl2 h1
    unfold RepW Rep at k1 k2
    subst k1; subst k2
    exact call_max2 hc pins s σ H _ us Q I r ⟨_, _, rfl, fin _ f _ _ (.refl H) rep_int⟩
  · exact f.elim
theorem bf_min2 (hc : X.calm = true) : CallR X (.builtin "min") (LVn X.K minD2) := by
  intro pins s σ H xs us Q I r h
  obtain ⟨hc', m, ds, P, w, h1, f, fin⟩ := h
  unfold minD2 at f
  split at f
  · obtain ⟨x, y, rfl, k1, k2⟩ := wl2 h1
    unfold RepW Rep at k1 k2
    subst k1; subst k2
    exact call_min2 hc pins s σ H _ us Q I r ⟨_, _, rfl, fin _ f _ _ (.refl H) rep_int⟩
  · exact f.elim
/-- the length of what has one -/
def lenOf (hc : CH) : D → Option Nat
  | .lst xs => some xs.length
  | .tup xs => some xs.length
  | .ref a => (hc a).map List.length
  | .frz xs => some xs.length
  | _ => none
def lenD : On := fun ds hc P => match ds with
  | [.str z] => z.length ≤ sizeLine ∧ P (.int z.length)
  | [.lst xs] => P (.int xs.length)
  | [.tup xs] => P (.int xs.length)
  | [.frz xs] => P (.int xs.length)
  | [.ref a] => oth (hc a) fun xs => P (.int xs.length)
  | _ => False
theorem bf_len : CallR X (.builtin "len") (LVn X.K lenD) := by
  intro pins s σ H xs us Q I r h
  obtain ⟨hc, m, ds, P, w, h1, f, fin⟩ := h
  unfold lenD at f
  split at f
  · obtain ⟨x, rfl, k1⟩ := wl1 h1
    unfold RepW Rep at k1
    subst k1
    exact call_len pins s σ H _ us Q I r ⟨_, _, rfl, ⟨f.1, rfl⟩, fin _ f.2 _ _ (.refl H) rep_int⟩
  · obtain ⟨x, rfl, k1⟩ := wl1 h1
    unfold RepW at k1
    obtain ⟨p, vs, rfl, q, rl⟩ := k1
    exact call_len pins s σ H _ us Q I r ⟨_, _, rfl, .inl ⟨vs, .of q, rl.length⟩, fin _ f _ _ (.refl H) rep_int⟩
  · obtain ⟨x, rfl, k1⟩ := wl1 h1
    unfold RepW Rep at k1
    obtain ⟨p, vs, rfl, q, rl⟩ := k1
    exact call_len pins s σ H _ us Q I r ⟨_, _, rfl, .inr ⟨vs, q, rl.length⟩, fin _ f _ _ (.refl H) rep_int⟩
  · obtain ⟨x, rfl, k1⟩ := wl1 h1
    unfold RepW Rep at k1
    obtain ⟨p, vs, rfl, q, rl⟩ := k1
    exact call_len pins s σ H _ us Q I r ⟨_, _, rfl, .inl ⟨vs, q.sq, rl.length⟩, fin _ f _ _ (.refl H) rep_int⟩
  · obtain ⟨x, rfl, k1⟩ := wl1 h1
    unfold RepW Rep at k1
    subst k1
    obtain ⟨ds, e, f⟩ := oth_of f
    obtain ⟨vs, q, rl⟩ := w.heap _ _ e
    exact call_len pins s σ H _ us Q I r ⟨_, _, rfl, .inl ⟨vs, .of q, rl.length⟩, fin _ f _ _ (.refl H) rep_int⟩
  · exact f.elim
def pyTy : D → String
  | .non => "NoneType"
  | .bl _ => "bool"
  | .int _ => "int"
  | .str _ => "str"
  | .tup _ => "tuple"
  | .lst _ => "list"
  | .ref _ => "list"
  | .frz _ => "list"
  | .clo _ _ _ => "function"
  | .exn _ _ _ _ => "function"
  | .fn _ => "function"
  | .dct _ _ => "dict"
/-- whether a class is, or is below, another one -/
def tyB (a n : String) : Bool := a == n || (a == "bool" && n == "int")
def isTy (n : String) (d : D) : Bool := tyB (pyTy d) n
def isiD (n : String) : O1 := fun d hc P => (match d with | .ref a => hc a ≠ none | .clo _ _ _ => False | .exn _ _ _ _ => False | .fn _ => False | _ => True) ∧ P (.bl (isTy n d))
theorem tyx_of {K : PySem.W.Frag} {H : Hp} {hc : CH} {m : Ms} (w : Wd K H hc m) : ∀ {d : D} {v : V}, RepW K H m d v → (match d with | .ref a => hc a ≠ none | .clo _ _ _ => False | .exn _ _ _ _ => False | .fn _ => False | _ => True) → TyX K H v (.type (pyTy d))
  | .non, v, h, _ => by unfold RepW Rep at h; subst h; exact .base .non
  | .bl _, v, h, _ => by unfold RepW Rep at h; subst h; exact .base (.bl _)
  | .int _, v, h, _ => by unfold RepW Rep at h; subst h; exact .base (.int _)
  | .str _, v, h, _ => by unfold RepW Rep at h; subst h; exact .base (.str _)
  | .tup _, v, h, _ => by
    unfold RepW Rep at h
    obtain ⟨p, vs, rfl, q, _⟩ := h
    rcases q with (q | ⟨o, q⟩) | ⟨o, its, n, q, c, _⟩
    · exact .base (.tup q)
    · exact .fTuple q
    · exact .kTuple q c
  | .lst _, v, h, _ => by unfold RepW at h; obtain ⟨p, vs, rfl, q, _⟩ := h; exact .base (.lst q)
  | .ref a, v, h, ha => by
    unfold RepW Rep at h
    subst h
    cases e : hc a with
    | none => exact absurd e ha
    | some ds =>
      obtain ⟨vs, q, _⟩ := w.heap a ds e
      exact .base (.lst q)
  | .frz _, v, h, _ => by
    unfold RepW Rep at h
    obtain ⟨p, vs, rfl, q, _⟩ := h
    rcases q with ⟨o, q⟩ | ⟨o, its, n, q, c, _⟩
    · exact .base (.frz q)
    · exact .kList q c
  | .dct _ _, v, h, _ => by unfold RepW Rep at h; obtain ⟨p, vs, rfl, _, q, _⟩ := h; exact .base (.dK q)
  | .clo _ _ _, v, h, ha => False.elim ha
  | .exn _ _ _ _, v, h, ha => False.elim ha
  | .fn _, v, h, ha => False.elim ha
abbrev tyNs : List String := ["int", "bool", "str", "tuple", "list", "dict"]
theorem kit_tab : ∀ a ∈ "NoneType" :: tyNs, ∀ n ∈ tyNs, kitB a n = some (tyB a n) := by decide +kernel
theorem fn_ty {hc : CH} {d : D} (h : match d with | .ref a => hc a ≠ none | .clo _ _ _ => False | .exn _ _ _ _ => False | .fn _ => False | _ => True) : pyTy d ≠ "function" := by
  cases d <;> first | exact h.elim | (unfold pyTy; simp)
theorem kit_all {K : PySem.W.Frag} {n : String} (hn : n ∈ tyNs) (d : D) (hd : pyTy d ≠ "function") : PySem.W.kitOne K (.type (pyTy d)) (.type n) = some (isTy n d) :=
  kit_ty (kit_tab _ (by cases d <;> first | exact absurd rfl hd | simp [pyTy]) n hn)
end
section
variable {X : Cx} {W : WX} {e : Expr} {es : List Expr} {ca : CEx} {pos : Pos}
/-- isinstance(e, T), T a built-in class -/
theorem ce_isi {n : String} {x : Str} {p1 p2 : Pos} (hT : n ∈ tyNs) (hm : X.mg "isinstance" = none) (hm2 : X.mg x = none) (ha : CB X W e ca) (hv2 : bootBuiltins x = some (.type n) := by decide +kernel) (hg : Gl X "isinstance" := by rfl) (hg2 : Gl X x := by rfl) (hn2 : x ≠ "__name__" := by decide) (hd2 : (x == ("__debug__" : Str)) = false := by decide)
    (he : starEach [e, .Name x p2] X.env = (false, eval e X.env) :: starEach [.Name x p2] X.env := by rfl) (he2 : starEach [.Name x p2] X.env = (false, eval (.Name x p2) X.env) :: starEach [] X.env := by rfl) (hpl : (backTo pos (starEach [.Name x p2] X.env)).any (·.1) = false := by rfl) : CE X W (.Call (.Name "isinstance" p1) [e, .Name x p2] [] pos) (cUn (isiD n) ca) :=
  ⟨pe_wk (pe_callB call_isi hg hm (by decide +kernel) (pa_cons ha.p (pa_cons (pe_bltn (v := .ty n) hg2 hm2 hv2 rfl hn2 hd2) pa_nil he2) he) (by decide) (by decide) he hpl) fun σ H Q h => by
    obtain ⟨en, sc, hc, m, E, P, r, k, xo, fin⟩ := h
    refine ⟨en, sc, hc, m, E, _, r, k, xo, fun d hc1 p v H1 m1 x1 q => ?_⟩
    have w1 : Wd X.K H1 hc1 m1 := x1.toWd
    exact ⟨v, .ty n, _, _, _, rfl, .ty n, tyx_of w1 (q.w (r.call x1)) p.1, kit_all hT d (fn_ty p.1), fin _ hc1 p.2 _ H1 m1 x1 rep_bl⟩⟩
end

/-! ### defs -/
def startC (N : List Str) (ds : List D) : List Sl := ds.map Sl.val ++ List.replicate (N.length - ds.length) Sl.un
theorem start_rs {K : PySem.W.Frag} {H : Hp} {hc : CH} {m : Ms} {N : List Str} {ds : List D} {vs : List V} (w : Wd K H hc m) (q : RepL K H m ds vs) : Rs K ⟨H, hc, m⟩ (L2.start N vs) H (startC N ds) hc m := by
  have l := q.length
  refine ⟨.refl w, fun i d e => ?_, fun i es e => ?_, fun i j es fs p e1 e2 e3 e4 => ?_, ?_⟩
  · unfold startC at e
    by_cases h : i < ds.length
    · rw [List.getElem?_append_left (by rw [List.length_map]; exact h), List.getElem?_map] at e
      cases e1 : ds[i]? with
      | none => rw [e1] at e; cases e
      | some d' =>
        rw [e1] at e; cases e
        obtain ⟨v, e2, q2⟩ := q.get e1
        refine ⟨v, ?_, q2⟩
        unfold L2.start
        rw [List.getElem?_append_left (by rw [List.length_map, ← l]; exact h), List.getElem?_map, e2]
        rfl
    · rw [List.getElem?_append_right (by rw [List.length_map]; omega), List.getElem?_replicate] at e
      split at e <;> cases e
  · unfold startC at e
    by_cases h : i < ds.length
    · rw [List.getElem?_append_left (by rw [List.length_map]; exact h), List.getElem?_map] at e
      cases e1 : ds[i]? with
      | none => rw [e1] at e; cases e
      | some d' => rw [e1] at e; cases e
    · rw [List.getElem?_append_right (by rw [List.length_map]; omega), List.getElem?_replicate] at e
      split at e <;> cases e
  · unfold startC at e1
    by_cases h : i < ds.length
    · rw [List.getElem?_append_left (by rw [List.length_map]; exact h), List.getElem?_map] at e1
      cases e5 : ds[i]? with
      | none => rw [e5] at e1; cases e1
      | some d' => rw [e5] at e1; cases e1
    · rw [List.getElem?_append_right (by rw [List.length_map]; omega), List.getElem?_replicate] at e1
      split at e1 <;> cases e1
  · unfold L2.start startC
    rw [List.length_append, List.length_append, List.length_map, List.length_map, List.length_replicate, List.length_replicate, l]
section
variable {P : Program} {w : World} {K : PySem.W.Frag} {mg : Str → Option Value} {base : Heap} {x qual : Str} {params : Arguments} {body : List Stmt} {scope : Scope} {dvs : List V} {kws : List (Str × V)} {f : Addr} {fd : FuncData}
abbrev WE (E : XK) : WX := fun cls d _ H => E cls d H
abbrev cxD (P : Program) (w : World) (K : PySem.W.Frag) (mg : Str → Option Value) (base : Heap) (N : List Str) (qual : Str) (scope : Scope) (f : Addr) (cd : Value) (A : Around) (outer : List Env) (s : Shared) (H : Hp) (E : XK) : Cx := cxOf (L2.CX P w) P w K mg base N qual scope f cd A outer s H E
theorem rt_of {k : Nat} {N : List Str} {cd : Value} {A : Around} {outer : List Env} {s : Shared} {H : Hp} {E : XK} (hr : RG k (A.deeper (envOfC qual scope s.heap.objs.size f cd))) : RT k (cxD P w K mg base N qual scope f cd A outer s H E) (WE E) := ⟨hr, takes_of rfl rfl rfl rfl, passes_of rfl⟩
theorem end_of {N : List Str} {cd : Value} {A : Around} {outer : List Env} {s : Shared} {H : Hp} {E : XK} {Q : VK} {hc : CH} {m : Ms} {P' : D → CH → Prop} {PE : Exn → CH → Prop}
    (f1 : ∀ d hc', P' d hc' → ∀ v H' m', Ex K ⟨H, hc, m⟩ H' hc' m' → Rep K H' m' d v → Q v H') (f2 : ∀ x hc', PE x hc' → ∀ cls dx H' m', Ex K ⟨H, hc, m⟩ H' hc' m' → RepXK K mg H' m' x cls dx → E cls dx H') :
    EndOk (cxD P w K mg base N qual scope f cd A outer s H E) (WE E) ⟨H, hc, m⟩ H m { nx := fun _ hc' => P' .non hc', rt := P', xp := fun x _ hc' => PE x hc' } { nx := fun _ H' => Q .non H', rt := Q } :=
  ⟨fun sc' hc' q σ' H' m' r' s' => f1 _ hc' q _ H' m' r'.toEx rep_non, fun _ _ z => z.elim, fun _ _ z => z.elim, fun d hc' q v H' m' x' r' => f1 d hc' q v H' m' x' r', fun x sc hc' px cls d σ' H' m' r' q => f2 x hc' px cls d H' m' r'.toEx q⟩
/-- a def: its clean reading c and its promise sp -/
theorem fn_ok {N ps : List Str} {k : Nat} {sp : Spc} {c : CSx} (F : FunD K x qual params body scope dvs kws f fd) (S : FnScope N ps scope)
    (hb : ∀ (cdv : Value) (A : Around) (outer : List Env) (s : Shared) (H : Hp) (E : XK), RT k (cxD P w K mg base N qual scope f cdv A outer s H E) (WE E) → CSs (cxD P w K mg base N qual scope f cdv A outer s H E) (WE E) body c)
    (hl : ∀ ds hc Q E, sp ds hc Q E → ds.length = ps.length)
    (hp : ∀ ds hc (Q : D → CH → Prop) E, sp ds hc Q E → c { nx := fun _ hc' => Q .non hc', rt := Q, xp := fun x _ hc' => E x hc' } (startC N ds) hc) : FnG P w K mg base (L2.CX P w) (k + 1) f fd ps (toSp K mg sp) := by
  obtain ⟨oc, od, dV, kV, doc, pm, an, cdv, ct, osl, rfl, lk, hcd, _, _⟩ := F.ex
  refine fnG_of lk hcd S (fun vs H Q E ⟨hc, m, ds, P', PE, w', rl, h, _⟩ => by rw [← rl.length]; exact hl ds hc _ _ h) fun A outer s H vs Q E hr ⟨hc, m, ds, P', PE, w', rl, h, f1, f2⟩ => ⟨_, (hb cdv A outer s H E (rt_of hr)).p, ?_⟩
  exact ⟨_, _, hc, m, _, start_rs w' rl, hp ds hc P' PE h, end_of f1 f2⟩
end
end Mn

namespace Mn
open PySem PySem.Spec PyProof.Rows L2
section
variable {X : Cx} {W : WX} {tg e : Expr} {es : List Expr} {ce : CEx} {pos : Pos}
/-! ### a tuple or a list: unpacked, walked -/
theorem pg_or {t u : TG} (h : PG X e t) (g : PG X e u) : PG X e (fun v σ H Q => t v σ H Q ∨ u v σ H Q) := ⟨fun pins s σ H v w Q I r q => q.elim (h.run pins s σ H v w Q I r) (g.run pins s σ H v w Q I r)⟩
def gUn (n : Nat) (gs : CGsx) : CGx := fun E d sc hc P => match d with
  | .tup xs => xs.length = n ∧ gs E xs sc hc P
  | .lst xs => xs.length = n ∧ gs E xs sc hc P
  | .ref a => oth (hc a) fun xs => xs.length = n ∧ gs E xs sc hc P
  | _ => False
theorem cg_u {gs : CGsx} {n k : Nat} (hc : X.calm = true) (h : CGs X W es gs) (hn : (assignEach es X.env).length = n := by rfl) (hst : (assignEach es X.env).findIdx? (·.1) = none := by rfl) : CG X W (.Tuple es k pos) (gUn n gs) :=
  ⟨pg_wk (pg_or (cg_t (n := n) hc h hn hst).p (cg_l (n := n) hc h hn hst).p) fun v σ H Q ⟨en, sc, hc, m, E, d, P, r, q, k, xo, f⟩ => by
    cases d <;> try exact k.elim
    · exact .inl ⟨en, sc, hc, m, E, _, P, r, q, k, xo, f⟩
    · exact .inr ⟨en, sc, hc, m, E, _, P, r, q, k, xo, f⟩
    · exact .inr ⟨en, sc, hc, m, E, _, P, r, q, k, xo, f⟩⟩
theorem pi_seq {te : TE} (h : PE X e te) : PI X tg e (fun σ H R => te σ H fun x H1 => ∃ a, x = .ref a ∧ (((∃ xs, SqL X.K H1 a xs) ∧ R (Itl X.K a) H1) ∨ ((∃ xs, SqT X.K H1 a xs) ∧ R (Itt X.K a) H1))) :=
  ⟨fun pins s σ H R I hw => thn (h.run pins s σ H _ I hw) fun v s1 ⟨x, H1, I1, r1, a, ex, q⟩ => by
    subst ex
    cases r1
    rcases q with ⟨⟨xs, hq⟩, q⟩ | ⟨⟨xs, hq⟩, q⟩
    · obtain ⟨its, _, pl, _⟩ := I1.list hq
      exact wpAny_pyIter_list pl.isList (pi_one I1 (tk := s1.toks) _ (turn_list a _) ⟨_, Heap.get?_push_size _ rfl, rfl, rfl⟩ q)
    · obtain ⟨its, _, pt, _⟩ := I1.tuple hq
      exact wpAny_pyIter_tuple pt (pi_one I1 (tk := s1.toks) _ (turn_tuple a _) ⟨_, Heap.get?_push_size _ rfl, rfl, rfl⟩ q)⟩
def cIt (ce : CEx) : CIx := fun E sc hc P => ce E sc hc fun d hc1 => match d with | .lst xs => P xs hc1 | .tup xs => P xs hc1 | .frz xs => P xs hc1 | _ => False
theorem ci_e (h : CE X W e ce) : CI X W tg e (cIt ce) := ⟨pi_wk (pi_seq h.p) fun σ H R ⟨en, sc, hc, m, E, P, r, k, xo, fin⟩ =>
  ⟨en, sc, hc, m, E, _, r, k, xo, fun d hc1 p v H1 m1 x1 q => by
    have r1 := r.call x1
    have mu1 := r1.mu
    cases d <;> try exact p.elim
    · rename_i xs
      unfold Rep at q
      obtain ⟨a, vs, rfl, q1, q2⟩ := q
      refine ⟨a, rfl, .inr ⟨⟨vs, q1⟩, fin xs hc1 p _ H1 m1 x1 fun H2 m2 mo s2 i => ⟨fun d e => ?_, fun hl => ⟨vs, sqt_step mu1 s2 q1, by rw [← q2.length]; exact hl⟩⟩⟩⟩
      obtain ⟨w, e1, q3⟩ := q2.get e
      have hq := sqt_step mu1 s2 q1
      refine ⟨⟨vs, w, hq, e1⟩, fun x H3 ⟨e3, y⟩ => ?_⟩
      have e4 := y vs hq
      rw [e1] at e4; cases e4
      subst e3
      exact ⟨.refl _, Rep.mono mu1 s2 _ _ q3⟩
    · rename_i xs
      unfold Rep at q
      obtain ⟨a, vs, rfl, na, q1, q2⟩ := q
      refine ⟨a, rfl, .inl ⟨⟨vs, .of q1⟩, fin xs hc1 p _ H1 m1 x1 fun H2 m2 mo s2 i => ⟨fun d e => ?_, fun hl => ⟨vs, .of (s2.keep _ _ q1 trivial na), by rw [← q2.length]; exact hl⟩⟩⟩⟩
      obtain ⟨w, e1, q3⟩ := q2.get e
      have hq := SqL.of (K := X.K) (s2.keep _ _ q1 trivial na)
      refine ⟨⟨vs, w, hq, e1⟩, fun x H3 ⟨e3, y⟩ => ?_⟩
      have e4 := y vs hq
      rw [e1] at e4; cases e4
      subst e3
      exact ⟨.refl _, Rep.mono mu1 s2 _ _ q3⟩
    · rename_i xs
      unfold Rep at q
      obtain ⟨a, vs, rfl, q1, q2⟩ := q
      have hs : ∀ {H2 : Hp} {m2 : Ms}, Stp H1 m1 H2 m2 → SqL X.K H2 a vs := fun {H2 m2} s2 => by
        rcases q1 with ⟨o, q1⟩ | q1
        · exact .inl (.inr ⟨o, s2.keep _ _ q1 trivial fun z => by obtain ⟨w, e⟩ := mu1 _ z; rw [q1] at e; cases e⟩)
        · exact .inr q1
      refine ⟨a, rfl, .inl ⟨⟨vs, q1.sq⟩, fin xs hc1 p _ H1 m1 x1 fun H2 m2 mo s2 i => ⟨fun d e => ?_, fun hl => ⟨vs, hs s2, by rw [← q2.length]; exact hl⟩⟩⟩⟩
      obtain ⟨w, e1, q3⟩ := q2.get e
      have hq := hs s2
      refine ⟨⟨vs, w, hq, e1⟩, fun x H3 ⟨e3, y⟩ => ?_⟩
      have e4 := y vs hq
      rw [e1] at e4; cases e4
      subst e3
      exact ⟨.refl _, Rep.mono mu1 s2 _ _ q3⟩⟩⟩

/-! ### a def by its name -/
def FnAt (P : Program) (w : World) (K : PySem.W.Frag) (mg : Str → Option Value) (base : Heap) (k : Nat) (x : Str) (ps : List Str) (sp : Spc) : Prop :=
  ∃ (f : Addr) (fd : FuncData), FnG P w K mg base (L2.CX P w) k f fd ps (toSp K mg sp) ∧ mg x = some (.ref f) ∧ PySem.W.keepIn K (.ref f) = true ∧ Binds K fd ps [] ∧ ∃ (oc : Value) (od : Option Addr) (osl : Array (Option Value)), K.lookup f = some ⟨oc, od, .func fd, osl⟩
theorem FnAt.mono {P : Program} {w : World} {K : PySem.W.Frag} {mg : Str → Option Value} {base : Heap} {j k : Nat} {x : Str} {ps : List Str} {sp : Spc} (h : FnAt P w K mg base j x ps sp) (l : j ≤ k) : FnAt P w K mg base k x ps sp := by
  obtain ⟨f, fd, a, b, c, d⟩ := h
  exact ⟨f, fd, a.mono l, b, c, d⟩
theorem ce_f {x : Str} {p : Pos} {k l : Nat} {ps : List Str} {sp : Spc} {c : CAx} (F : FnAt X.prog X.w X.K X.mg X.base k x ps sp) (hr : RT l X W) (ha : CA X W (e :: es) c) (hl : k ≤ l := by decide)
    (hg : Gl X x := by rfl) (hdb : (x == ("__debug__" : Str)) = false := by decide) (he : starEach (e :: es) X.env = (false, eval e X.env) :: starEach es X.env := by rfl) (hpl : (backTo pos (starEach es X.env)).any (·.1) = false := by rfl) : CE X W (.Call (.Name x p) (e :: es) [] pos) (cCall sp c) := by
  obtain ⟨f, fd, F, hm, hk, hb, _⟩ := F
  exact ce_call F (hr.mono hl) hm hk hb ha hg hdb he hpl
end
/-- where a def of the text stands -/
def DefAt (K : PySem.W.Frag) (mg : Str → Option Value) (x : Str) (st : Stmt) : Prop := ∃ (f : Addr) (fd : FuncData), FunD K x x (defArgs st) (defBody st) (defScope st) [] [] f fd ∧ mg x = some (.ref f)
theorem fn_at {P : Program} {w : World} {K : PySem.W.Frag} {mg : Str → Option Value} {base : Heap} {x : Str} {st : Stmt} {N ps : List Str} {k : Nat} {sp : Spc} {c : CSx} (F : DefAt K mg x st) (S : FnScope N ps (defScope st))
    (hb : ∀ (f : Addr) (cdv : Value) (A : Around) (outer : List Env) (s : Shared) (H : Hp) (E : XK), RT k (cxD P w K mg base N x (defScope st) f cdv A outer s H E) (WE E) → CSs (cxD P w K mg base N x (defScope st) f cdv A outer s H E) (WE E) (defBody st) c)
    (hl : ∀ ds hc Q E, sp ds hc Q E → ds.length = ps.length) (hp : ∀ ds hc (Q : D → CH → Prop) E, sp ds hc Q E → c { nx := fun _ hc' => Q .non hc', rt := Q, xp := fun x _ hc' => E x hc' } (startC N ds) hc)
    (hbi : ∀ (kV doc pm : Value) (an : Option Addr) (cdv ct : Value) (us : List Value), us.length = ps.length → bindArgs (PySem.W.fnOf x x (defArgs st) (defBody st) (defScope st) .none kV doc pm an cdv ct) ⟨us, []⟩ = pure (ps.zip us)) : FnAt P w K mg base (k + 1) x ps sp := by
  obtain ⟨f, fd, F, hm⟩ := F
  refine ⟨f, fd, fn_ok F S (hb f) hl hp, hm, F.kp, F.bindsN hbi, ?_⟩
  obtain ⟨oc, od, dV, kV, doc, pm, an, cdv, ct, osl, e, lk, _⟩ := F.ex
  exact ⟨oc, od, osl, lk⟩

/-! ### the law -/
def spLaw : Spc := fun ds _ Q _ => ∃ ns : List Int, ds = [.frz (ns.map D.int)] ∧ ns.length ≤ 63 ∧ ∀ hc', Q (.bl true) hc'
theorem repl_ints {K : PySem.W.Frag} {H : Hp} {m : Ms} : ∀ ns : List Int, RepL K H m (ns.map D.int) (ns.map V.int)
  | [] => RepL.nil
  | n :: ns => RepL.cons rep_int (repl_ints ns)
end Mn

namespace Mn
open PySem PySem.Spec PyProof.Rows L2
/-! ### constants of the module -/
def GlobC (K : PySem.W.Frag) (mg : Str → Option Value) (x : Str) (d : D) : Prop := ∃ u v, mg x = some u ∧ RelV v u ∧ ∀ H m, Rep K H m d v
theorem GlobC.int {K : PySem.W.Frag} {mg : Str → Option Value} {x : Str} {i : Int} (h : ∃ t, mg x = some (.int i t)) : GlobC K mg x (.int i) := by
  obtain ⟨t, h⟩ := h
  exact ⟨_, .int i, h, ⟨t, rfl⟩, fun _ _ => rep_int⟩
theorem GlobC.str {K : PySem.W.Frag} {mg : Str → Option Value} {x : Str} {i : Str} (h : ∃ t, mg x = some (.str i t)) : GlobC K mg x (.str i) := by
  obtain ⟨t, h⟩ := h
  exact ⟨_, .str i, h, ⟨t, rfl⟩, fun _ _ => rep_str⟩
theorem ce_gc {X : Cx} {W : WX} {x : Str} {d : D} {pos : Pos} (h : GlobC X.K X.mg x d) (hg : Gl X x := by rfl) (hd : (x == ("__debug__" : Str)) = false := by decide) : CE X W (.Name x pos) (cC d) := by
  obtain ⟨u, v, hm, r, hr⟩ := h
  exact ce_g hg hm r hr hd
/-! ### helps for readings -/
/-- one statement by itself: what follows is a letter -/
theorem seq_step {c1 c2 : CSx} {C : CEnds} {sc : List Sl} {hc : CH} (h : ∀ N : List Sl → CH → Prop, (∀ sc' hc', c2 C sc' hc' → N sc' hc') → c1 { nx := N, rt := C.rt, bk := C.bk, ct := C.ct, xp := C.xp } sc hc) : cSeq c1 c2 C sc hc :=
  h (fun sc' hc' => c2 C sc' hc') fun _ _ z => z
section
variable {ca cb cc : CEx} {t u : CTx} {c : CAx} {cl ch : COx} {f : O2} {f1 : O1} {fn : On} {g : CGx} {gs : CGsx} {s1 s2 : CSx} {ci : CIx} {E : XP} {sc : List Sl} {hc : CH} {C : CEnds} {i j l : Nat} {d : D} {ds : List D} {P : D → CH → Prop} {PT : Bool → CH → Prop} {PA : List D → CH → Prop} {PS : List Sl → CH → Prop} {PO : Option Int → CH → Prop} {sp : Spc}
theorem e_V : cV i E sc hc P = (match look sc i with | some d => P d hc | none => False) := rfl
theorem e_C : cC d E sc hc P = P d hc := rfl
theorem e_O : cO i E sc hc P = (match lookO sc i with | some ds => P (.lst ds) hc | none => False) := rfl
theorem e_Op : cOp f ca cb E sc hc P = ca E sc hc fun x hc1 => cb E sc hc1 fun y hc2 => f x y hc2 fun d => P d hc2 := rfl
theorem e_Un : cUn f1 ca E sc hc P = ca E sc hc fun x hc1 => f1 x hc1 fun d => P d hc1 := rfl
theorem e_Fn : cFn fn c E sc hc P = c E sc hc fun ds hc1 => fn ds hc1 fun d => P d hc1 := rfl
theorem e_Call : cCall sp c E sc hc P = c E sc hc fun ds hc1 => sp ds hc1 P fun x hc2 => E x sc hc2 := rfl
theorem e_Nil : cNil E sc hc PA = PA [] hc := rfl
theorem e_Cons : cCons ca c E sc hc PA = ca E sc hc fun d hc1 => c E sc hc1 fun ds hc2 => PA (d :: ds) hc2 := rfl
theorem e_Tup : cTup c E sc hc P = c E sc hc fun ds hc1 => ds.length ≤ sizeLine ∧ P (.tup ds) hc1 := rfl
theorem e_Lst : cLst c E sc hc P = c E sc hc fun ds hc1 => ds.length ≤ sizeLine ∧ P (.lst ds) hc1 := rfl
theorem e_NoP : cNoP E sc hc PO = PO none hc := rfl
theorem e_SoP : cSoP ca E sc hc PO = ca E sc hc fun d hc1 => match d with | .int i => PO (some i) hc1 | _ => False := rfl
theorem e_Sl : cSl ca cl ch E sc hc P = ca E sc hc fun x hc1 => cl E sc hc1 fun l hc2 => ch E sc hc2 fun u hc3 => slD x l u hc3 fun d => P d hc3 := rfl
theorem e_T : cT ca E sc hc PT = ca E sc hc fun d hc' => match d with | .bl b => PT b hc' | _ => False := rfl
theorem e_And : cAnd t u E sc hc PT = t E sc hc fun b hc1 => if b = true then u E sc hc1 PT else PT false hc1 := rfl
theorem e_Or : cOr t u E sc hc PT = t E sc hc fun b hc1 => if b = true then PT true hc1 else u E sc hc1 PT := rfl
theorem e_Not : cNot t E sc hc PT = t E sc hc fun b hc1 => PT (!b) hc1 := rfl
theorem e_If : cIf t ca cb E sc hc P = t E sc hc fun b hc1 => if b = true then ca E sc hc1 P else cb E sc hc1 P := rfl
theorem e_gN : gN i E d sc hc PS = PS (sc.set i (.val d)) hc := rfl
theorem e_Asg : cAsg ca g C sc hc = ca C.xp sc hc fun d hc1 => g C.xp d sc hc1 C.nx := rfl
theorem e_Ret : cRet ca C sc hc = ca C.xp sc hc C.rt := rfl
theorem e_RetN : cRetN C sc hc = C.rt .non hc := rfl
theorem e_Next : cNext C sc hc = C.nx sc hc := rfl
theorem e_IfS : cIfS t s1 s2 C sc hc = t C.xp sc hc fun b hc1 => if b = true then s1 C sc hc1 else s2 C sc hc1 := rfl
theorem e_For : cFor ci g s1 C sc hc = ci C.xp sc hc fun ds hc1 => forW g s1 ds C sc hc1 := rfl
theorem e_It : cIt ca E sc hc PA = ca E sc hc fun d hc1 => match d with | .lst xs => PA xs hc1 | .tup xs => PA xs hc1 | .frz xs => PA xs hc1 | _ => False := rfl
theorem e_R1 : cR1 c E sc hc PA = c E sc hc fun ds hc1 => match ds with | [.int hi] => PA (rngD 0 hi) hc1 | _ => False := rfl
theorem e_R2 : cR2 c E sc hc PA = c E sc hc fun ds hc1 => match ds with | [.int lo, .int hi] => PA (rngD lo hi) hc1 | _ => False := rfl
theorem e_Drop : cDrop ca C sc hc = ca C.xp sc hc fun _ hc1 => C.nx sc hc1 := rfl
theorem e_Par : cPar i j c C sc hc = c C.xp sc hc fun ds hc1 => match ds with | [x, y] => C.nx ((sc.set i (.val x)).set j (.val y)) hc1 | _ => False := rfl
theorem e_Par3 : cPar3 i j l c C sc hc = c C.xp sc hc fun ds hc1 => match ds with | [x, y, z] => C.nx (((sc.set i (.val x)).set j (.val y)).set l (.val z)) hc1 | _ => False := rfl
theorem e_App : cApp i ca C sc hc = (match lookO sc i with | some ds => ds.length < sizeLine ∧ ca C.xp sc hc fun d hc1 => C.nx (sc.set i (.own (ds ++ [d]))) hc1 | none => False) := rfl
theorem e_SetO : cSetO i c C sc hc = c C.xp sc hc fun ds hc1 => ds.length ≤ sizeLine ∧ C.nx (sc.set i (.own ds)) hc1 := rfl
theorem e_Give : cGive i s1 C sc hc = (match lookO sc i with | some ds => s1 C (sc.set i (.val (.lst ds))) hc | none => False) := rfl
theorem look_0 {r : List Sl} : look (.val d :: r) 0 = some d := rfl
theorem look_s {x : Sl} {r : List Sl} {n : Nat} : look (x :: r) (n + 1) = look r n := by cases x <;> rfl
theorem lookO_0 {r : List Sl} : lookO (.own ds :: r) 0 = some ds := rfl
theorem lookO_s {x : Sl} {r : List Sl} {n : Nat} : lookO (x :: r) (n + 1) = lookO r n := by cases x <;> rfl
end
theorem ixN_nat {n j : Nat} {i : Int} (hi : i = (j : Int)) (h : j < n) : ixN n i = some j := by
  unfold ixN
  rw [if_pos (by omega), if_pos (by omega)]
  rw [show i.toNat = j by omega]
theorem atI_nat' {xs : List D} {i : Int} {j : Nat} {d : D} (hi : i = (j : Int)) (h : xs[j]? = some d) : atI xs i = some d := by
  have lt : j < xs.length := by
    by_cases l : j < xs.length
    · exact l
    · rw [List.getElem?_eq_none (by omega)] at h; cases h
  unfold atI
  rw [ixN_nat hi lt]
  exact h
theorem atD_nat {xs : List D} {i : Int} {j : Nat} {d : D} {P : D → Prop} (hi : i = (j : Int)) (h : xs[j]? = some d) (q : P d) : oth (atI xs i) P := oth_some (atI_nat' hi h) q
/-- an index that lies in it: all that may stand there -/
theorem atD_all {xs : List D} {i : Int} {P : D → Prop} (h0 : 0 ≤ i) (h1 : i < xs.length) (q : ∀ j : Nat, ∀ d, i = (j : Int) → xs[j]? = some d → P d) : oth (atI xs i) P :=
  have lt : i.toNat < xs.length := by omega
  atD_nat (j := i.toNat) (by omega) (List.getElem?_eq_getElem lt) (q _ _ (by omega) (List.getElem?_eq_getElem lt))
theorem set_nat {ds : List D} {k : Int} (h0 : 0 ≤ k) (h1 : k < ds.length) : ixN ds.length k = some k.toNat := by
  unfold ixN
  rw [if_pos h0, if_pos h1]
theorem updc_same {hc : CH} {p : Addr} {ds : List D} : updc hc p ds p = some ds := by unfold updc; rw [if_pos rfl]
theorem updc_ne {hc : CH} {p q : Addr} {ds : List D} (h : q ≠ p) : updc hc p ds q = hc q := by unfold updc; rw [if_neg h]
/-- a loop by an invariant: a turn goes on with whatever follows from the invariant behind it -/
theorem forW_inv {g : CGx} {c : CSx} (I : Nat → List Sl → CH → Prop) : ∀ (ds : List D) (i : Nat) {C : CEnds} {sc : List Sl} {hc : CH}, I i sc hc →
    (∀ (j : Nat) (d : D) sc hc (Nx : List Sl → CH → Prop), ds[j]? = some d → I (i + j) sc hc → (∀ sc' hc', I (i + j + 1) sc' hc' → Nx sc' hc') → g C.xp d sc hc fun sc1 hc1 => c { nx := Nx, ct := Nx, bk := C.nx, rt := C.rt, xp := C.xp } sc1 hc1) →
    (∀ sc hc, I (i + ds.length) sc hc → C.nx sc hc) → forW g c ds C sc hc
  | [], i, C, sc, hc, h, _, q => q sc hc h
  | d :: ds, i, C, sc, hc, h, t, q => by
    refine t 0 d sc hc (fun s h => forW g c ds C s h) rfl h fun sc' hc' k => ?_
    refine forW_inv I ds (i + 1) k (fun j d' s3 h3 Nx e k3 nx => ?_) fun s3 h3 k3 => q s3 h3 (by rw [List.length_cons, show i + (ds.length + 1) = i + 1 + ds.length by omega]; exact k3)
    refine t (j + 1) d' s3 h3 Nx e (by rw [show i + (j + 1) = i + 1 + j by omega]; exact k3) fun sc4 hc4 k4 => nx sc4 hc4 ?_
    rw [show i + 1 + j + 1 = i + (j + 1) + 1 by omega]
    exact k4
theorem for_inv {g : CGx} {c : CSx} (I : Nat → List Sl → CH → Prop) {ds : List D} {C : CEnds} {sc : List Sl} {hc : CH} (h : I 0 sc hc)
    (t : ∀ (j : Nat) (d : D) sc hc (Nx : List Sl → CH → Prop), ds[j]? = some d → I j sc hc → (∀ sc' hc', I (j + 1) sc' hc' → Nx sc' hc') → g C.xp d sc hc fun sc1 hc1 => c { nx := Nx, ct := Nx, bk := C.nx, rt := C.rt, xp := C.xp } sc1 hc1)
    (q : ∀ sc hc, I ds.length sc hc → C.nx sc hc) : forW g c ds C sc hc :=
  forW_inv I ds 0 h (fun j d sc hc Nx e k nx => t j d sc hc Nx e (by rw [Nat.zero_add] at k; exact k) fun s h z => nx s h (by rw [Nat.zero_add]; exact z)) fun sc hc k => q sc hc (by rw [Nat.zero_add] at k; exact k)
/-- a while by an invariant with a measure -/
theorem wh_inv {t : CTx} {c : CSx} {C : CEnds} (I : Nat → List Sl → CH → Prop)
    (st : ∀ m sc hc (Nx : List Sl → CH → Prop), I m sc hc → (∀ m' sc' hc', m' < m → I m' sc' hc' → Nx sc' hc') → t C.xp sc hc fun b hc1 => if b = true then c { nx := Nx, ct := Nx, bk := C.nx, rt := C.rt, xp := C.xp } sc hc1 else C.nx sc hc1) {m : Nat} {sc : List Sl} {hc : CH} (h : I m sc hc) : cWhile t c C sc hc := by
  have all : ∀ k m sc hc, m < k → I m sc hc → whN t c k C sc hc := by
    intro k
    induction k with
    | zero => intro m sc hc l; omega
    | succ k ih =>
      intro m sc hc l h
      exact st m sc hc (fun s h => whN t c k C s h) h fun m' sc' hc' l' h' => ih m' sc' hc' (by omega) h'
  exact ⟨m + 1, all (m + 1) m sc hc (Nat.lt_succ_self m) h⟩
/-- a comprehension by an invariant -/
theorem lcW_inv {g : CGx} {t : CTx} {ce : CEx} {own : List Nat} {sc : List Sl} (I : Nat → List D → CH → Prop) : ∀ (ds : List D) (i : Nat) {acc : List D} {hc : CH} {P : List D → CH → Prop}, I i acc hc →
    (∀ (j : Nat) (d : D) acc hc (Nx : List D → CH → Prop), ds[j]? = some d → I (i + j) acc hc → (∀ acc' hc', I (i + j + 1) acc' hc' → Nx acc' hc') → g (fun _ _ _ => False) d (wipeC sc own) hc fun sc1 hc1 => t (fun _ _ _ => False) sc1 hc1 fun b hc2 =>
      if b = true then ce (fun _ _ _ => False) sc1 hc2 fun y hc3 => Nx (acc ++ [y]) hc3 else Nx acc hc2) →
    (∀ acc hc, I (i + ds.length) acc hc → P acc hc) → lcW g t ce own sc ds acc hc P
  | [], i, acc, hc, P, h, _, q => q acc hc h
  | d :: ds, i, acc, hc, P, h, tn, q => by
    refine tn 0 d acc hc (fun a h => lcW g t ce own sc ds a h P) rfl h fun acc' hc' k => ?_
    refine lcW_inv I ds (i + 1) k (fun j d' s3 h3 Nx e k3 nx => ?_) fun s3 h3 k3 => q s3 h3 (by rw [List.length_cons, show i + (ds.length + 1) = i + 1 + ds.length by omega]; exact k3)
    refine tn (j + 1) d' s3 h3 Nx e (by rw [show i + (j + 1) = i + 1 + j by omega]; exact k3) fun sc4 hc4 k4 => nx sc4 hc4 ?_
    rw [show i + 1 + j + 1 = i + (j + 1) + 1 by omega]
    exact k4
/-- a comprehension over one name, without a test, that is a map -/
theorem lc_map {i : Nat} {ce : CEx} {own : List Nat} {sc : List Sl} {hc : CH} (f : D → D) {ds : List D} {P : List D → CH → Prop}
    (st : ∀ d ∈ ds, ∀ Nx : D → CH → Prop, Nx (f d) hc → ce (fun _ _ _ => False) ((wipeC sc own).set i (.val d)) hc Nx) (q : P (ds.map f) hc) : lcW (gN i) cYes ce own sc ds [] hc P := by
  refine lcW_inv (fun j acc h => h = hc ∧ acc = (ds.take j).map f) ds 0 ⟨rfl, by simp⟩ (fun j d acc h Nx e ⟨k1, k2⟩ nx => ?_) fun acc h ⟨k1, k2⟩ => ?_
  · subst k1
    rw [Nat.zero_add] at k2 nx
    show (if true = true then ce (fun _ _ _ => False) ((wipeC sc own).set i (.val d)) h (fun y h3 => Nx (acc ++ [y]) h3) else Nx acc h)
    rw [if_pos rfl]
    refine st d (List.mem_of_getElem? e) (fun y h3 => Nx (acc ++ [y]) h3) (nx _ _ ⟨rfl, ?_⟩)
    rw [k2, List.take_add_one, e, List.map_append]
    rfl
  · rw [Nat.zero_add, List.take_length] at k2
    rw [k1, k2]
    exact q
end Mn

namespace Mn
open PySem PySem.Spec PyProof.Rows L2
/-! ### == of flat data -/
def okD : Nat → D → Bool
  | _, .non => true
  | _, .int _ => true
  | _, .str s => PyData.canLay0 (.str s)
  | n + 1, .tup xs => xs.all (okD n)
  | n + 1, .lst xs => xs.all (okD n)
  | _, _ => false
theorem okD_bl {m : Nat} {b : Bool} : okD m (.bl b) = false := by cases m <;> rfl
theorem okD_ref {m : Nat} {b : Addr} : okD m (.ref b) = false := by cases m <;> rfl
theorem okD_frz {m : Nat} {b : List D} : okD m (.frz b) = false := by cases m <;> rfl
theorem okD_clo {m : Nat} {f ws xs} : okD m (.clo f ws xs) = false := by cases m <;> rfl
theorem okD_fn {m : Nat} {x} : okD m (.fn x) = false := by cases m <;> rfl
theorem okD_exn {m : Nat} {a dx ns xs} : okD m (.exn a dx ns xs) = false := by cases m <;> rfl
theorem okD_dct {m : Nat} {b c} : okD m (.dct b c) = false := by cases m <;> rfl
theorem okD_non {m : Nat} : okD m .non = true := by cases m <;> rfl
theorem okD_int {m : Nat} {i : Int} : okD m (.int i) = true := by cases m <;> rfl
theorem okD_str {m : Nat} {s : Str} : okD m (.str s) = PyData.canLay0 (.str s) := by cases m <;> rfl
def OkPy (n : Nat) (d : D) : Prop := ∃ p, toPy d = some p ∧ p.canLay0 = true ∧ p.depth ≤ n ∧ ∀ e m q, okD m e = true → toPy e = some q → (PyData.eqv p q = true ↔ d = e)
def OkPyL (n : Nat) (ds : List D) : Prop := ∃ ps, toPyL ds = some ps ∧ PyData.canLayAll0 ps = true ∧ PyData.depthAll ps ≤ n ∧ ∀ es m qs, es.all (okD m) = true → toPyL es = some qs → (PyData.eqvAll ps qs = true ↔ ds = es)
theorem okPyL {n : Nat} (ih : ∀ d, okD n d = true → OkPy n d) : ∀ ds : List D, ds.all (okD n) = true → OkPyL n ds
  | [], _ => ⟨[], rfl, rfl, Nat.zero_le _, fun es m qs h e => by
    cases es with
    | nil => unfold toPyL at e; cases e; exact ⟨fun _ => rfl, fun _ => rfl⟩
    | cons d es =>
      unfold toPyL at e
      split at e
      · cases e; exact ⟨fun z => by simp [PyData.eqvAll] at z, fun z => by cases z⟩
      · cases e⟩
  | d :: ds, h => by
    rw [List.all_cons, Bool.and_eq_true] at h
    obtain ⟨p, e1, c1, l1, k1⟩ := ih d h.1
    obtain ⟨ps, e2, c2, l2, k2⟩ := okPyL ih ds h.2
    refine ⟨p :: ps, by unfold toPyL; rw [e1, e2], by simp [PyData.canLayAll0, c1, c2], by simp [PyData.depthAll]; omega, fun es m qs h' e => ?_⟩
    cases es with
    | nil => unfold toPyL at e; cases e; exact ⟨fun z => by simp [PyData.eqvAll] at z, fun z => by cases z⟩
    | cons d' es =>
      unfold toPyL at e
      rw [List.all_cons, Bool.and_eq_true] at h'
      split at e
      · next q qs' f1 f2 =>
        cases e
        simp only [PyData.eqvAll, Bool.and_eq_true]
        rw [k1 _ m _ h'.1 f1, k2 _ m _ h'.2 f2]
        exact ⟨fun ⟨a, b⟩ => by rw [a, b], fun z => by cases z; exact ⟨rfl, rfl⟩⟩
      · cases e
theorem eqv_no {p q : PyData} (h : PyData.eqv p q = false) {d e : D} (n : d ≠ e) : PyData.eqv p q = true ↔ d = e := by
  rw [h]; exact ⟨fun z => (by cases z), fun z => absurd z n⟩
theorem okPy : ∀ (n : Nat) (d : D), okD n d = true → OkPy n d
  | n, .non, _ => ⟨.none, by unfold toPy; rfl, rfl, by simp [PyData.depth], fun e m q h t => by
    cases e <;> unfold toPy at t <;> (try simp only [okD_bl, okD_ref, okD_frz, okD_dct, Bool.false_eq_true] at h) <;> try (cases t) <;> try exact eqv_no rfl (fun z => nomatch z)
    · exact ⟨fun _ => rfl, fun _ => rfl⟩
    all_goals (first | (obtain ⟨_, _, rfl⟩ := Option.map_eq_some_iff.mp t; exact eqv_no (by simp [PyData.eqv]) (fun z => nomatch z)))⟩
  | n, .int i, _ => ⟨.int i, by unfold toPy; rfl, rfl, by simp [PyData.depth], fun e m q h t => by
    cases e <;> unfold toPy at t <;> (try simp only [okD_bl, okD_ref, okD_frz, okD_dct, Bool.false_eq_true] at h) <;> try (cases t) <;> try exact eqv_no rfl (fun z => nomatch z)
    · simp [PyData.eqv]
    all_goals (first | (obtain ⟨_, _, rfl⟩ := Option.map_eq_some_iff.mp t; exact eqv_no (by simp [PyData.eqv]) (fun z => nomatch z)))⟩
  | n, .str i, g => ⟨.str i, by unfold toPy; rfl, by cases n <;> exact g, by simp [PyData.depth], fun e m q h t => by
    cases e <;> unfold toPy at t <;> (try simp only [okD_bl, okD_ref, okD_frz, okD_dct, Bool.false_eq_true] at h) <;> try (cases t) <;> try exact eqv_no rfl (fun z => nomatch z)
    · simp [PyData.eqv]
    all_goals (first | (obtain ⟨_, _, rfl⟩ := Option.map_eq_some_iff.mp t; exact eqv_no (by simp [PyData.eqv]) (fun z => nomatch z)))⟩
  | n + 1, .tup xs, g => by
    obtain ⟨ps, e1, c1, l1, k1⟩ := okPyL (okPy n) xs g
    refine ⟨.tuple ps, by unfold toPy; rw [e1]; rfl, c1, by simp [PyData.depth]; omega, fun e m q h t => ?_⟩
    cases e <;> unfold toPy at t <;> (try simp only [okD_bl, okD_ref, okD_frz, okD_dct, Bool.false_eq_true] at h) <;> try (cases t) <;> try exact eqv_no (by simp [PyData.eqv]) (fun z => nomatch z)
    · next ys =>
      obtain ⟨qs, e2, rfl⟩ := Option.map_eq_some_iff.mp t
      cases m with
      | zero => simp [okD] at h
      | succ m =>
        simp only [PyData.eqv]
        rw [k1 ys m qs (by simpa [okD] using h) e2]
        exact ⟨fun z => by rw [z], fun z => by cases z; rfl⟩
    · obtain ⟨_, _, rfl⟩ := Option.map_eq_some_iff.mp t; exact eqv_no (by simp [PyData.eqv]) (fun z => nomatch z)
  | n + 1, .lst xs, g => by
    obtain ⟨ps, e1, c1, l1, k1⟩ := okPyL (okPy n) xs g
    refine ⟨.list ps, by unfold toPy; rw [e1]; rfl, c1, by simp [PyData.depth]; omega, fun e m q h t => ?_⟩
    cases e <;> unfold toPy at t <;> (try simp only [okD_bl, okD_ref, okD_frz, okD_dct, Bool.false_eq_true] at h) <;> try (cases t) <;> try exact eqv_no (by simp [PyData.eqv]) (fun z => nomatch z)
    · obtain ⟨_, _, rfl⟩ := Option.map_eq_some_iff.mp t; exact eqv_no (by simp [PyData.eqv]) (fun z => nomatch z)
    · next ys =>
      obtain ⟨qs, e2, rfl⟩ := Option.map_eq_some_iff.mp t
      cases m with
      | zero => simp [okD] at h
      | succ m =>
        simp only [PyData.eqv]
        rw [k1 ys m qs (by simpa [okD] using h) e2]
        exact ⟨fun z => by rw [z], fun z => by cases z; rfl⟩
  | 0, .tup xs, g => by simp [okD] at g
  | 0, .lst xs, g => by simp [okD] at g
  | n, .bl _, g => by rw [okD_bl] at g; cases g
  | n, .ref _, g => by rw [okD_ref] at g; cases g
  | n, .frz _, g => by rw [okD_frz] at g; cases g
  | n, .clo _ _ _, g => by rw [okD_clo] at g; cases g
  | n, .exn _ _ _ _, g => by rw [okD_exn] at g; cases g
  | n, .fn _, g => by rw [okD_fn] at g; cases g
  | n, .dct _ _, g => by rw [okD_dct] at g; cases g
theorem shaped_ok {p : PyData} {n : Nat} (c : p.canLay0 = true) (l : p.depth ≤ n) (h : n ≤ 64) : SeqAt.shaped p = true := by
  unfold SeqAt.shaped
  rw [c, decide_eq_true (by omega)]
  rfl
theorem eqG_ok {neg : Bool} {n m : Nat} {x y : D} {P : D → Prop} (hx : okD n x = true) (hy : okD m y = true) (h1 : x = y → P (.bl (!neg))) (h2 : x ≠ y → P (.bl neg)) (hn : n ≤ 64 := by decide) (hm : m ≤ 64 := by decide) : eqG neg x y P := by
  obtain ⟨p, e1, c1, l1, k1⟩ := okPy n x hx
  obtain ⟨q, e2, c2, l2, _⟩ := okPy m y hy
  refine ⟨p, q, e1, e2, shaped_ok c1 l1 hn, shaped_ok c2 l2 hm, ?_⟩
  have k := k1 y m q hy e2
  cases z : PyData.eqv p q with
  | true =>
    have := h1 (k.mp z)
    cases neg <;> exact this
  | false =>
    have := h2 fun w => by rw [k.mpr w] at z; cases z
    cases neg <;> exact this
/-- == of flat data: equal as data -/
theorem eqD_ok {x y : D} {hc : CH} {P : D → Prop} (n m : Nat) (hx : okD n x = true) (hy : okD m y = true) (h1 : x = y → P (.bl true)) (h2 : x ≠ y → P (.bl false)) (hn : n ≤ 64 := by decide) (hm : m ≤ 64 := by decide) : eqD x y hc P := by
  unfold eqD
  split
  · next i j =>
    by_cases e : i = j
    · rw [decide_eq_true e]; exact h1 (by rw [e])
    · rw [decide_eq_false e]; exact h2 fun z => e (by cases z; rfl)
  · next i j =>
    by_cases e : i = j
    · rw [decide_eq_true e]; exact h1 (by rw [e])
    · rw [decide_eq_false e]; exact h2 fun z => e (by cases z; rfl)
  · exact h1 rfl
  · exact eqG_ok hx hy h1 h2 hn hm
theorem neD_ok {x y : D} {hc : CH} {P : D → Prop} (n m : Nat) (hx : okD n x = true) (hy : okD m y = true) (h1 : x = y → P (.bl false)) (h2 : x ≠ y → P (.bl true)) (hn : n ≤ 64 := by decide) (hm : m ≤ 64 := by decide) : neD x y hc P := by
  unfold neD
  split
  · next i j =>
    by_cases e : i = j
    · rw [decide_eq_true e]; exact h1 (by rw [e])
    · rw [decide_eq_false e]; exact h2 fun z => e (by cases z; rfl)
  · next i j =>
    by_cases e : i = j
    · rw [decide_eq_true e]; exact h1 (by rw [e])
    · rw [decide_eq_false e]; exact h2 fun z => e (by cases z; rfl)
  · exact h1 rfl
  · exact eqG_ok hx hy h1 h2 hn hm
/-- the end of most laws: both sides are the same flat data -/
theorem eqD_same {x : D} {hc : CH} {P : D → Prop} (n : Nat) (hx : okD n x = true) (h : P (.bl true)) (hn : n ≤ 64 := by decide) : eqD x x hc P := eqD_ok n n hx hx (fun _ => h) (fun z => absurd rfl z) hn hn
/-- a for loop: what it runs over is a letter -/
theorem for_step {ci : CIx} {g : CGx} {s : CSx} {C : CEnds} {sc : List Sl} {hc : CH}
    (h : ∀ R : List D → CH → Prop, (∀ (ds : List D) (hc1 : CH) (I : Nat → List Sl → CH → Prop), I 0 sc hc1 →
      (∀ (j : Nat) (d : D) sc hc (Nx : List Sl → CH → Prop), ds[j]? = some d → I j sc hc → (∀ sc' hc', I (j + 1) sc' hc' → Nx sc' hc') → g C.xp d sc hc fun sc1 hc1 => s { nx := Nx, ct := Nx, bk := C.nx, rt := C.rt, xp := C.xp } sc1 hc1) →
      (∀ sc hc, I ds.length sc hc → C.nx sc hc) → R ds hc1) → ci C.xp sc hc R) : cFor ci g s C sc hc :=
  h (fun ds hc1 => forW g s ds C sc hc1) fun _ _ I b t e => for_inv I b t e
theorem rng_at {hi : Int} {j : Nat} {d : D} (h : (rngD 0 hi)[j]? = some d) : d = .int j ∧ (j : Int) < hi := by
  unfold rngD at h
  rw [List.getElem?_map] at h
  cases e : (List.range (hi - 0).toNat)[j]? with
  | none => rw [e] at h; cases h
  | some x =>
    rw [e] at h
    obtain ⟨hj, hx⟩ := List.getElem?_eq_some_iff.mp e
    rw [List.length_range] at hj
    rw [List.getElem_range] at hx
    subst hx
    cases h
    exact ⟨by show D.int (0 + (j : Int)) = _; rw [Int.zero_add], by omega⟩
theorem rng_at2 {lo hi : Int} {j : Nat} {d : D} (h : (rngD lo hi)[j]? = some d) : d = .int (lo + j) ∧ lo + (j : Int) < hi := by
  unfold rngD at h
  rw [List.getElem?_map] at h
  cases e : (List.range (hi - lo).toNat)[j]? with
  | none => rw [e] at h; cases h
  | some x =>
    rw [e] at h
    obtain ⟨hj, hx⟩ := List.getElem?_eq_some_iff.mp e
    rw [List.length_range] at hj
    rw [List.getElem_range] at hx
    subst hx
    cases h
    exact ⟨rfl, by omega⟩
theorem rng_len {hi : Int} : (rngD 0 hi).length = hi.toNat := by
  unfold rngD
  rw [List.length_map, List.length_range, Int.sub_zero]
theorem rng_len2 {lo hi : Int} : (rngD lo hi).length = (hi - lo).toNat := by
  unfold rngD
  rw [List.length_map, List.length_range]
/-! ### what the rules say at data -/
section
variable {hc : CH} {P : D → Prop} {i j : Int} {a : Addr} {b : Bool} {xs ys : List D} {x y : Str} {C : Int → Int → Prop} {g : Int → Int → Int} {gb : Int → Int → Bool}
theorem o_addI : addD (.int i) (.int j) hc P = P (.int (i + j)) := rfl
theorem o_addS : addD (.str x) (.str y) hc P = (x.length + y.length ≤ sizeLine ∧ P (.str (x ++ y))) := rfl
theorem o_addL : addD (.lst xs) (.lst ys) hc P = (xs.length + ys.length ≤ sizeLine ∧ P (.lst (xs ++ ys))) := rfl
theorem o_addT : addD (.tup xs) (.tup ys) hc P = (xs.length + ys.length ≤ sizeLine ∧ P (.tup (xs ++ ys))) := rfl
theorem o_addR : addD (.ref a) (.lst ys) hc P = oth (hc a) fun xs => xs.length + ys.length ≤ sizeLine ∧ P (.lst (xs ++ ys)) := rfl
theorem o_addR' : addD (.lst xs) (.ref a) hc P = oth (hc a) fun ys => xs.length + ys.length ≤ sizeLine ∧ P (.lst (xs ++ ys)) := rfl
theorem o_sub : subD (.int i) (.int j) hc P = P (.int (i - j)) := rfl
theorem o_mul : mulD (.int i) (.int j) hc P = (MulOk i j ∧ P (.int (i * j))) := rfl
theorem o_mulL : mulD (.lst xs) (.int i) hc P = ((-(2 ^ 63) ≤ i ∧ i < 2 ^ 63 ∧ xs.length * i.toNat ≤ sizeLine) ∧ P (.lst (List.replicate i.toNat xs).flatten)) := rfl
theorem o_fdiv : fdivD (.int i) (.int j) hc P = (DivOk i j ∧ P (.int (i / j))) := rfl
theorem o_mod : modD (.int i) (.int j) hc P = (0 < j ∧ P (.int (i % j))) := rfl
theorem o_pow : powD (.int i) (.int j) hc P = (CPow i j ∧ P (.int (i ^ j.toNat))) := rfl
theorem o_shl : shlD (.int i) (.int j) hc P = (CShl i j ∧ P (.int (i * 2 ^ j.toNat))) := rfl
theorem o_shr : shrD (.int i) (.int j) hc P = (0 ≤ j ∧ P (.int (i / 2 ^ j.toNat))) := rfl
theorem o_and : andD (.int i) (.int j) hc P = P (.int (Builtin.bitAnd i j)) := rfl
theorem o_or : orD (.int i) (.int j) hc P = P (.int (Builtin.bitOr i j)) := rfl
theorem o_neg : negD (.int i) hc P = P (.int (-i)) := rfl
theorem o_eqI : eqD (.int i) (.int j) hc P = P (.bl (decide (i = j))) := rfl
theorem o_eqS : eqD (.str x) (.str y) hc P = P (.bl (decide (x = y))) := rfl
theorem o_neI : neD (.int i) (.int j) hc P = P (.bl (!decide (i = j))) := rfl
theorem o_neS : neD (.str x) (.str y) hc P = P (.bl (!decide (x = y))) := rfl
theorem o_lt : ltD (.int i) (.int j) hc P = P (.bl (decide (i < j))) := rfl
theorem o_le : leD (.int i) (.int j) hc P = P (.bl (decide (i ≤ j))) := rfl
theorem o_gt : gtD (.int i) (.int j) hc P = P (.bl (decide (j < i))) := rfl
theorem o_ge : geD (.int i) (.int j) hc P = P (.bl (decide (j ≤ i))) := rfl
theorem o_ixL : ixD (.lst xs) (.int i) hc P = oth (atI xs i) P := rfl
theorem o_ixT : ixD (.tup xs) (.int i) hc P = oth (atI xs i) P := rfl
theorem o_ixR : ixD (.ref a) (.int i) hc P = oth (hc a) fun xs => oth (atI xs i) P := rfl
theorem o_abs : absD [.int i] hc P = P (.int (if i < 0 then -i else i)) := rfl
theorem o_int : intFD [.int i] hc P = P (.int i) := rfl
theorem o_max : maxD2 [.int i, .int j] hc P = P (.int (if j > i then j else i)) := rfl
theorem o_min : minD2 [.int i, .int j] hc P = P (.int (if j < i then j else i)) := rfl
theorem o_lenL : lenD [.lst xs] hc P = P (.int xs.length) := rfl
theorem o_lenT : lenD [.tup xs] hc P = P (.int xs.length) := rfl
theorem o_lenF : lenD [.frz xs] hc P = P (.int xs.length) := rfl
theorem o_lenR : lenD [.ref a] hc P = oth (hc a) fun xs => P (.int xs.length) := rfl
theorem o_slL {lo hi : Option Int} : slD (.lst xs) lo hi hc P = P (.lst (cutX xs lo hi)) := rfl
theorem o_slT {lo hi : Option Int} : slD (.tup xs) lo hi hc P = P (.tup (cutX xs lo hi)) := rfl
theorem o_slF {lo hi : Option Int} : slD (.frz xs) lo hi hc P = P (.lst (cutX xs lo hi)) := rfl
theorem e_Ch {f g : O2} {ca cb cc : CEx} {E : XP} {sc : List Sl} {P : D → CH → Prop} : cCh f g ca cb cc E sc hc P = ca E sc hc fun x hc1 => cb E sc hc1 fun y hc2 => f x y hc2 fun d => match d with
  | .bl true => cc E sc hc2 fun z hc3 => g y z hc3 fun d => P d hc3
  | .bl false => P (.bl false) hc2
  | _ => False := rfl
theorem e_AndV {ca cb : CEx} {E : XP} {sc : List Sl} {P : D → CH → Prop} : cAndV ca cb E sc hc P = ca E sc hc fun d hc1 => match d with | .bl true => cb E sc hc1 P | .bl false => P (.bl false) hc1 | _ => False := rfl
theorem e_OrV {ca cb : CEx} {E : XP} {sc : List Sl} {P : D → CH → Prop} : cOrV ca cb E sc hc P = ca E sc hc fun d hc1 => match d with | .bl true => P (.bl true) hc1 | .bl false => cb E sc hc1 P | _ => False := rfl
theorem e_NotV {ca : CEx} {E : XP} {sc : List Sl} {P : D → CH → Prop} : cNotV ca E sc hc P = ca E sc hc fun d hc1 => match d with | .bl b => P (.bl (!b)) hc1 | _ => False := rfl
theorem at_0 {d : D} : oth (atI (d :: xs) 0) P = P d := by
  have : atI (d :: xs) 0 = some d := atI_nat' (j := 0) rfl rfl
  rw [this]
  exact propext ⟨fun h => by obtain ⟨_, e, h⟩ := oth_of h; cases e; exact h, fun h => oth_some rfl h⟩
theorem at_1 {d e : D} : oth (atI (d :: e :: xs) 1) P = P e := by
  have : atI (d :: e :: xs) 1 = some e := atI_nat' (j := 1) rfl rfl
  rw [this]
  exact propext ⟨fun h => by obtain ⟨_, e, h⟩ := oth_of h; cases e; exact h, fun h => oth_some rfl h⟩
theorem at_2 {d e f : D} : oth (atI (d :: e :: f :: xs) 2) P = P f := by
  have : atI (d :: e :: f :: xs) 2 = some f := atI_nat' (j := 2) rfl rfl
  rw [this]
  exact propext ⟨fun h => by obtain ⟨_, e, h⟩ := oth_of h; cases e; exact h, fun h => oth_some rfl h⟩
end
end Mn

namespace Mn
open PySem PySem.Spec PyProof.Rows L2
/-! ### what the statics and the table of modules are -/
def statK (K : PySem.W.Frag) : Bool := (match PySem.W.nsIn K cStatics "sys.int_max_str_digits" with | some none => true | _ => false) && (match K.lookup sysModules with | some ⟨_, _, .dict _ _, _⟩ => true | _ => false)
structure Stat (h : Heap) : Prop where
  lim : ∃ mc, h.Ns cStatics mc ∧ mc "sys.int_max_str_digits" = none
  mods : ∃ o es n, h.get? sysModules = some o ∧ o.data = .dict es n
theorem Stat.keeps {h h' : Heap} (x : Stat h) (k : ∀ b o, h.get? b = some o → h'.get? b = some o) : Stat h' := by
  obtain ⟨⟨mc, ⟨o, es, ep, e1, e2, e3⟩, z⟩, ⟨o2, es2, n, f1, f2⟩⟩ := x
  exact ⟨⟨mc, ⟨o, es, ep, k _ _ e1, e2, e3⟩, z⟩, ⟨o2, es2, n, k _ _ f1, f2⟩⟩
theorem ns_none {K : PySem.W.Frag} {h : Heap} {a : Addr} {m : Str → Option Value} {x : Str} (KX : K.In h) (N : h.Ns a m) (q : PySem.W.nsIn K a x = some none) : m x = none := by
  obtain ⟨ob, ents, pp, g1, g2, _, g3⟩ := N
  unfold PySem.W.nsIn at q
  split at q
  · rename_i cc dd ents2 nn sl kq
    have same := KX _ _ kq
    rw [g1] at same; cases same; cases g2
    split at q
    · cases q
    · rename_i fnd
      rw [← g3 x]
      unfold nsFind findBy
      rw [← Array.find?_toList, fnd]
      rfl
  · cases q
theorem stat_of {K : PySem.W.Frag} {h : Heap} (KX : K.In h) (NL : h.NoLimit) (c : statK K = true) : Stat h := by
  unfold statK at c
  rw [Bool.and_eq_true] at c
  obtain ⟨c1, c2⟩ := c
  constructor
  · obtain ⟨mc, N, _⟩ := NL
    refine ⟨mc, N, ns_none KX N ?_⟩
    revert c1
    cases PySem.W.nsIn K cStatics "sys.int_max_str_digits" with
    | none => intro c1; cases c1
    | some v => cases v with
      | none => intro _; rfl
      | some u => intro c1; cases c1
  · revert c2
    cases q : K.lookup sysModules with
    | none => intro c2; cases c2
    | some o =>
      obtain ⟨oc, od, dt, osl⟩ := o
      intro c2
      cases dt with
      | dict es n => exact ⟨_, es, n, KX _ _ q, rfl⟩
      | _ => cases c2
/-! ### the hook: the module's names, the statics, the table of modules -/
def obsS (fa : List He.Fa) (fn : List He.DefD) (K : PySem.W.Frag) : He.AlD × Bool := (He.obsD fa fn K, statK K)
def SaysS (fa : List He.Fa) (fn : List He.DefD) (K : PySem.W.Frag) : Prop := obsS fa fn K = (He.valD fn, true)
def obsSG (n : Nat) (fa : List He.Fa) (fn : List He.DefD) (g : Addr → Option Obj) : He.AlD × Bool := obsS fa fn (He.frG g (He.asD g n ++ [sysModules, cStatics]))
def hookS (n : Nat) (fa : List He.Fa) (fn : List He.DefD) : PySem.W.Hook where
  α := He.AlD × Bool
  obs := fun s => obsSG n fa fn s.heap.get?
  val := fun _ => (He.valD fn, true)
  says := fun _ h => ∃ K : PySem.W.Frag, K.In h ∧ SaysS fa fn K
  of := fun _ _ e => ⟨_, He.frG_in, e⟩
  keeps := fun _ _ _ ⟨K, hK, c⟩ k => ⟨K, PySem.W.Frag.In.keeps hK k, c⟩
theorem obsSG_eq {n : Nat} {fa : List He.Fa} {fn : List He.DefD} {g : Addr → Option Obj} {s : Shared} (h : ∀ a, g a = s.heap.get? a) : obsSG n fa fn g = (hookS n fa fn).obs s := by
  have e : g = s.heap.get? := funext h
  subst e
  rfl
theorem SaysS.d {fa : List He.Fa} {fn : List He.DefD} {K : PySem.W.Frag} (c : SaysS fa fn K) : He.SaysD fa fn K := congrArg (fun z : He.AlD × Bool => z.1) c
theorem SaysS.s {fa : List He.Fa} {fn : List He.DefD} {K : PySem.W.Frag} (c : SaysS fa fn K) : statK K = true := congrArg (fun z : He.AlD × Bool => z.2) c
/-! ### texts of great integers -/
def IntTxt (i : Int) : Bool := decide (i.natAbs < 2 ^ 12900)
theorem log_of {i : Int} (h : IntTxt i = true) : i.natAbs.log2 < 12900 := by
  have h := of_decide_eq_true h
  by_cases z : i.natAbs = 0
  · rw [z]; decide
  · exact (Nat.log2_lt z).mpr h
theorem digits_ok {M : Model} {A : Around} {E : Value → Shared → Prop} {s : Shared} {a : Int} {Q : Option Nat → Shared → Prop} (S : Stat s.heap) (h : IntTxt a = true) (k : Q none s) : wpAny M A (Builtin.overDigitLimit? a) Q E s := by
  have hl := log_of h
  unfold Builtin.overDigitLimit?
  by_cases sm : a.natAbs.log2 < 1920
  · rw [if_pos sm]; exact wpAny_pure k
  · rw [if_neg sm]
    obtain ⟨⟨mc, N, z⟩, _⟩ := S
    unfold Builtin.intMaxStrDigits
    refine wpAny_bind (wpAny_bind (wpAny_nsGet N ?_))
    rw [z]
    refine wpAny_pure ?_
    dsimp only
    rw [if_neg (by omega), if_pos (by simp; omega)]
    exact wpAny_pure k
theorem int_meets (a : Int) (t : Tok) (h : IntTxt a = true) : Meets (Builtin.«int.__repr__» ⟨[.int a t], []⟩) (fun _ R s => Stat s.heap ∧ R (.ok (.ret (.str (toString a) s.toks))) { s with toks := s.toks + 1 }) := fun prog w A R s ⟨S, hq⟩ => by
  have hlen : (Str.ofString (toString a)).length ≤ sizeLine := by
    rw [PySem.ofString_length, sizeLine_eq]
    have := int_text_length_le (k := 12900) (by decide) (log_of h)
    omega
  unfold Builtin.«int.__repr__»
  show wpAny _ _ (do let r ← Builtin.overDigitLimit? a; _) _ _ _
  refine wpAny_bind (digits_ok S h ?_)
  exact wpAny_bind (wpAny_mkStr (wpAny_pure hq) hlen)
section
variable {prog : Program} {w : World} {A : Around} {E : Value → Shared → Prop} {s : Shared}
theorem call_intrepr {a : Int} {t : Tok} {Q : Value → Shared → Prop} (S : Stat s.heap) (h : IntTxt a = true) (q : Q (.str (toString a) s.toks) { s with toks := s.toks + 1 }) : wpAny (model prog w) A (call (.builtin "int.__repr__") [.int a t]) Q E s :=
  call_meets F.slot_int_repr (typeIs_int s a t) F.entry_int_repr (F.args_int_repr_1 _) (int_meets a t h) ⟨S, q⟩
end
/-! ### texts of nested data -/
mutual
def bigP : PyData → Bool
  | .none | .bool _ | .str _ => true
  | .int i => IntTxt i
  | .list xs | .tuple xs => bigPs xs
  | .dict kvs => bigKv kvs
def bigPs : List PyData → Bool
  | [] => true
  | x :: xs => bigP x && bigPs xs
def bigKv : List (PyData × PyData) → Bool
  | [] => true
  | (k, v) :: r => bigP k && (bigP v && bigKv r)
end
theorem bigKv_split : ∀ l : List (PyData × PyData), bigKv l = true → bigPs (l.map Prod.fst) = true ∧ bigPs (l.map Prod.snd) = true
  | [], _ => ⟨rfl, rfl⟩
  | (a, b) :: r, h => by
    unfold bigKv at h
    rw [Bool.and_eq_true, Bool.and_eq_true] at h
    obtain ⟨g1, g2⟩ := bigKv_split r h.2.2
    exact ⟨by show (bigP a && bigPs _) = true; rw [h.1, g1]; rfl, by show (bigP b && bigPs _) = true; rw [h.2.1, g2]; rfl⟩
section
variable {prog : Program} {w : World} {hp : Heap}
theorem intK {i : Int} (t : Tok) (S : Stat hp) (h : IntTxt i = true) (n : Nat) : ReprK prog w [] hp n (.int i t) (toString i) := fun b hb A g E s Q hg _ hu hk hQ => by
  have small : b ≤ sizeLine := by omega
  rw [pyReprUnder_leaf (v := .int i t) small (fun _ e => nomatch e)]
  unfold pyRepr
  refine wpAny_bind (wpAny_pyReprObj_slot (by omega) (typeIs_int s i t) F.slot_int_repr.toG (call_intrepr (S.keeps hk) h ⟨_, _, rfl, ?_⟩))
  exact wpAny_pure (hQ s.heap _ fun _ _ e => e)
/-- what is read of the heap, and deep enough -/
abbrev Deep (hp : Heap) (d : PyData) (bs : List Addr) : Prop := ReadAtMost hp d.depth bs
mutual
theorem treeK (S : Stat hp) : ∀ {v : Value} {d : PyData} {as : List Addr}, Reads hp v d as → bigP d = true → sysModules ∉ as → d.shown.length ≤ sizeLine → ∃ bs, Deep hp d bs ∧ ReprK prog w bs hp d.depth v d.shown
  | _, _, _, .none, _, _, _ => ⟨[], (fun _ z => nomatch z), by rw [PyData.shown]; exact .of_is .none _ _ _⟩
  | _, _, _, .bool b, _, _, _ => ⟨[], (fun _ z => nomatch z), by rw [PyData.shown]; exact .of_is (.bool b) _ _ _⟩
  | _, _, _, .int i t, hb, _, _ => ⟨[], (fun _ z => nomatch z), by rw [PyData.shown]; unfold bigP at hb; exact intK t S hb _⟩
  | _, _, _, .str x t, _, _, hl => ⟨[], (fun _ z => nomatch z), by rw [PyData.shown] at hl ⊢; exact .of_is (.str x t hl) _ _ _⟩
  | _, _, _, .list (a := a) (vs := its) (xs := xs) g1 g2 g3 g4, hb, hn, hl => by
    rw [PyData.shown] at hl ⊢
    unfold bigP at hb
    obtain ⟨bs, db, kk⟩ := forestK S g4 hb (fun z => hn (List.mem_cons_of_mem _ z)) (fun t m => Nat.le_trans (listText_mem_le m) hl)
    have whole : Reads hp (.ref a) (.list xs) _ := .list g1 g2 g3 g4
    have deeper : PyData.depthAll xs < (PyData.list xs).depth := by rw [PyData.depth]; omega
    have na := not_mem_of_deeper whole deeper db
    refine ⟨a :: bs, ReadAtMost.cons whole (Nat.le_of_lt deeper) db, ?_⟩
    rw [PyData.depth]
    rcases its with ⟨vals⟩
    match vals, g3, g4, kk with
    | [], g3, g4, kk =>
      have nothing : ReadsAll hp [] xs _ := g4
      cases nothing
      rw [PyData.shownAll, listText_nil]
      exact .listEmpty g1 g2 g3
    | y :: ys, g3, g4, kk => exact .list g1 g2 g3 na (by simpa using kk.length_eq) fun j z e => kk.item j z (by simpa using e)
  | _, _, _, .tuple (a := a) (xs := xs) g1 g2 g3 g4, hb, hn, hl => by
    rw [PyData.shown] at hl ⊢
    unfold bigP at hb
    obtain ⟨bs, db, kk⟩ := forestK S g4 hb hn (fun t m => Nat.le_trans (tupleText_mem_le m) hl)
    have whole : Reads hp (.ref a) (.tuple xs) _ := .tuple g1 g2 g3 g4
    have deeper : PyData.depthAll xs < (PyData.tuple xs).depth := by rw [PyData.depth]; omega
    have na := not_mem_of_deeper whole deeper db
    refine ⟨a :: bs, ReadAtMost.cons whole (Nat.le_of_lt deeper) db, ?_⟩
    rw [PyData.depth]
    exact .tuple g1 g2 g3 na kk
  | _, _, _, .dict (a := a) (es := es) (kvs := l) (as := ka) (bs := va) g1 g2 g3 g4 g5, hb, hn, hl => by
    rw [PyData.shown] at hl ⊢
    unfold bigP at hb
    obtain ⟨hb1, hb2⟩ := bigKv_split l hb
    obtain ⟨bs1, db1, kk1⟩ := forestK S g4 hb1 (fun z => hn (List.mem_append_left _ (List.mem_cons_of_mem _ z))) fun t m => by
      obtain ⟨p, m2, le⟩ := PyData.shownKv_key_le l t m
      exact Nat.le_trans (Nat.le_trans le (dictText_mem_le m2)) hl
    obtain ⟨bs2, db2, kk2⟩ := forestK S g5 hb2 (fun z => hn (List.mem_append_right _ z)) fun t m => by
      obtain ⟨p, m2, le⟩ := PyData.shownKv_val_le l t m
      exact Nat.le_trans (Nat.le_trans le (dictText_mem_le m2)) hl
    have whole : Reads hp (.ref a) (.dict l) _ := .dict g1 g2 g3 g4 g5
    have both : ReadAtMost hp (PyData.depthKv l) (bs1 ++ bs2) := ReadAtMost.append (db1.mono (PyData.depthAll_keys_le l)) (db2.mono (PyData.depthAll_vals_le l))
    have deeper : PyData.depthKv l < (PyData.dict l).depth := by rw [PyData.depth]; omega
    have na := not_mem_of_deeper whole deeper both
    have other : (a == sysModules) = false := beq_eq_false_iff_ne.mpr fun z => hn (List.mem_append_left _ (by rw [z]; exact List.mem_cons_self ..))
    refine ⟨a :: (bs1 ++ bs2), ReadAtMost.cons whole (Nat.le_of_lt deeper) both, ?_⟩
    rw [PyData.depth, PyData.shownKv_eq]
    have r1 := kk1.more_le (as' := bs1 ++ bs2) (fun _ z => List.mem_append_left _ z) (PyData.depthAll_keys_le l)
    have r2 := kk2.more_le (as' := bs1 ++ bs2) (fun _ z => List.mem_append_right _ z) (PyData.depthAll_vals_le l)
    exact .dict g1 g2 g3 other na (.of_two es.toList _ _ r1 r2)
theorem forestK (S : Stat hp) : ∀ {vs : List Value} {ds : List PyData} {as : List Addr}, ReadsAll hp vs ds as → bigPs ds = true → sysModules ∉ as → (∀ t ∈ PyData.shownAll ds, t.length ≤ sizeLine) → ∃ bs, ReadAtMost hp (PyData.depthAll ds) bs ∧ ReprAllK prog w bs hp (PyData.depthAll ds) vs (PyData.shownAll ds)
  | _, _, _, .nil, _, _, _ => ⟨[], (fun _ z => nomatch z), by rw [PyData.shownAll]; exact .nil⟩
  | _, _, _, .cons (d := x) (ds := xs) g1 g2, hb, hn, hl => by
    unfold bigPs at hb
    rw [Bool.and_eq_true] at hb
    rw [PyData.shownAll] at hl ⊢
    rw [PyData.depthAll]
    obtain ⟨bs1, db1, kk1⟩ := treeK S g1 hb.1 (fun z => hn (List.mem_append_left _ z)) (hl _ (List.mem_cons_self ..))
    obtain ⟨bs2, db2, kk2⟩ := forestK S g2 hb.2 (fun z => hn (List.mem_append_right _ z)) fun t m => hl t (List.mem_cons_of_mem _ m)
    have m1 := Nat.le_max_left x.depth (PyData.depthAll xs)
    have m2 := Nat.le_max_right x.depth (PyData.depthAll xs)
    exact ⟨bs1 ++ bs2, (ReadAtMost.mono db1 m1).append (db2.mono m2), .cons ((kk1.more fun _ z => List.mem_append_left _ z).level_le m1) (kk2.more_le (fun _ z => List.mem_append_right _ z) m2)⟩
end
theorem repr_tree {A : Around} {E : Value → Shared → Prop} {s : Shared} {Q : Value → Shared → Prop} {a : Addr} {d : PyData} {as : List Addr} (S : Stat s.heap) (r : Reads s.heap (.ref a) d as) (hb : bigP d = true) (hn : sysModules ∉ as) (hg : A.guards = some []) (hu : A.units + (d.depth + 2) < cLine)
    (hl : d.shown.length ≤ sizeLine) (hQ : ∀ h' u tk, (∀ b o, s.heap.get? b = some o → h'.get? b = some o) → Q (.str d.shown u) { s with heap := h', toks := tk }) : wpAny (model prog w) A (call (.builtin "repr") [.ref a]) Q E s := by
  have under : A.in1.units + d.depth < cLine := by show A.units + 1 + d.depth < cLine; omega
  have g1 : A.in1.guards = some [] := hg
  cases r with
  | list g1' g2 g3 g4 =>
    rename_i o its n xs bs0
    unfold bigP at hb
    rw [PyData.shown] at hl hQ
    rw [PyData.depth] at under
    obtain ⟨bs, db, kk⟩ := forestK (prog := prog) (w := w) S g4 hb (fun z => hn (List.mem_cons_of_mem _ z)) (fun t m => Nat.le_trans (listText_mem_le m) hl)
    have na := not_mem_of_deeper (.list g1' g2 g3 g4) (by rw [PyData.depth]; omega) db
    refine call_repr_slot (T := "list") (idr := "list.__repr__") (by omega) ⟨o, g1', g2⟩ F.slot_list_repr.toG ?_
    rcases its with ⟨vals⟩
    match vals, g3, g4, kk with
    | [], g3, g4, kk =>
      have nothing : ReadsAll s.heap [] xs _ := g4
      cases nothing
      rw [PyData.shownAll, listText_nil] at hQ
      exact call_list_repr_empty ⟨o, g1', g2⟩ g1' g3 ⟨_, _, rfl, hQ s.heap _ _ fun _ _ e => e⟩
    | y :: ys, g3, g4, kk => exact call_list_reprK g1' g2 g3 na (by simpa using kk.length_eq) (fun j z e => kk.item j z (by simpa using e)) g1 (fun b _ => Clear.nil b) under (fun _ _ e => e) (fun h' u tk hk => ⟨_, _, rfl, hQ h' u tk hk⟩) hl
  | tuple g1' g2 g3 g4 =>
    rename_i o its n xs
    unfold bigP at hb
    rw [PyData.shown] at hl hQ
    rw [PyData.depth] at under
    obtain ⟨bs, db, kk⟩ := forestK (prog := prog) (w := w) S g4 hb hn (fun t m => Nat.le_trans (tupleText_mem_le m) hl)
    have na := not_mem_of_deeper (.tuple g1' g2 g3 g4) (by rw [PyData.depth]; omega) db
    refine call_repr_slot (T := "tuple") (idr := "tuple.__repr__") (by omega) ⟨o, g1', g2⟩ F.slot_tuple_repr ?_
    exact call_tuple_reprK g1' g2 g3 na kk g1 (fun b _ => Clear.nil b) under (fun _ _ e => e) (fun h' u tk hk => ⟨_, _, rfl, hQ h' u tk hk⟩) hl
  | dict g1' g2 g3 g4 g5 =>
    rename_i o es n l ka va
    unfold bigP at hb
    rw [PyData.shown] at hl hQ
    rw [PyData.depth] at under
    obtain ⟨hb1, hb2⟩ := bigKv_split l hb
    obtain ⟨bs1, db1, kk1⟩ := forestK (prog := prog) (w := w) S g4 hb1 (fun z => hn (List.mem_append_left _ (List.mem_cons_of_mem _ z))) fun t m => by
      obtain ⟨p, m2, le⟩ := PyData.shownKv_key_le l t m
      exact Nat.le_trans (Nat.le_trans le (dictText_mem_le m2)) hl
    obtain ⟨bs2, db2, kk2⟩ := forestK (prog := prog) (w := w) S g5 hb2 (fun z => hn (List.mem_append_right _ z)) fun t m => by
      obtain ⟨p, m2, le⟩ := PyData.shownKv_val_le l t m
      exact Nat.le_trans (Nat.le_trans le (dictText_mem_le m2)) hl
    have both : ReadAtMost s.heap (PyData.depthKv l) (bs1 ++ bs2) := ReadAtMost.append (db1.mono (PyData.depthAll_keys_le l)) (db2.mono (PyData.depthAll_vals_le l))
    have na := not_mem_of_deeper (.dict g1' g2 g3 g4 g5) (by rw [PyData.depth]; omega) both
    have other : (a == sysModules) = false := beq_eq_false_iff_ne.mpr fun z => hn (List.mem_append_left _ (by rw [z]; exact List.mem_cons_self ..))
    have r1 := kk1.more_le (as' := bs1 ++ bs2) (fun _ z => List.mem_append_left _ z) (PyData.depthAll_keys_le l)
    have r2 := kk2.more_le (as' := bs1 ++ bs2) (fun _ z => List.mem_append_right _ z) (PyData.depthAll_vals_le l)
    rw [PyData.shownKv_eq] at hl hQ
    refine call_repr_slot (T := "dict") (idr := "dict.__repr__") (by omega) ⟨o, g1', g2⟩ F.slot_dict_repr ?_
    exact call_dict_reprK g1' g2 g3 other na (.of_two es.toList _ _ r1 r2) g1 (fun b _ => Clear.nil b) under (fun _ _ e => e) (fun h' u tk hk => ⟨_, _, rfl, hQ h' u tk hk⟩) hl
end
/-! ### data with dicts -/
def keyPy : Key → PyData
  | .inl i => .int i
  | .inr x => .str x
mutual
def toPr : D → Option PyData
  | .non => some .none
  | .bl b => some (.bool b)
  | .int i => some (.int i)
  | .str s => some (.str s)
  | .tup xs => (toPrL xs).map .tuple
  | .lst xs => (toPrL xs).map .list
  | .ref _ => none
  | .dct ks xs => (toPrL xs).map fun ps => .dict ((ks.map keyPy).zip ps)
  | .frz _ => none
  | .clo _ _ _ => none
  | .exn _ _ _ _ => none
  | .fn _ => none
def toPrL : List D → Option (List PyData)
  | [] => some []
  | d :: ds => match toPr d, toPrL ds with
    | some p, some ps => some (p :: ps)
    | _, _ => none
end
theorem toPrL_len : ∀ {ds : List D} {ps : List PyData}, toPrL ds = some ps → ps.length = ds.length
  | [], ps, h => by unfold toPrL at h; cases h; rfl
  | d :: ds, ps, h => by
    unfold toPrL at h
    split at h
    · rename_i p qs e1 e2
      cases h
      rw [List.length_cons, List.length_cons, toPrL_len e2]
    · cases h
theorem map_fst_zip' {α β : Type} (l : List α) (r : List β) (h : l.length = r.length) : (l.zip r).map Prod.fst = l := List.map_fst_zip (by omega)
theorem map_snd_zip' {α β : Type} (l : List α) (r : List β) (h : l.length = r.length) : (l.zip r).map Prod.snd = r := List.map_snd_zip (by omega)
section
variable {X : Cx} {pins : List (Addr × Obj)} {σ : L2.St} {H : Hp} {s : Shared} {m : Ms}
theorem not_mods (S : Stat s.heap) {a : Addr} {o : Obj} {its : Array Value} {n : Nat} (h : s.heap.get? a = some o) (hd : o.data = .seq its n) : sysModules ≠ a := fun e => by
  obtain ⟨o2, es, n2, f1, f2⟩ := S.mods
  rw [← e] at h
  rw [h] at f1; cases f1
  rw [hd] at f2; cases f2
/-- the pairs of a dict, as they are read -/
theorem keys_read {P : Program} {w : World} {h : Heap} : ∀ {es : List DictEntry} {kvs : List (Key × Value)}, Pairs (mixKind P w) es kvs → ReadsAll h (es.map (·.key)) (kvs.map fun p => keyPy p.1) []
  | _, _, .nil => .nil
  | _, _, .cons (e := e) (kv := kv) h1 h2 h3 => by
    rcases keyIs_shape (show keyIs kv.1 e.key = true from h1) with ⟨i, t, e1, e2⟩ | ⟨x, t, e1, e2⟩
    · have r : Reads h e.key (keyPy kv.1) [] := by rw [e1, e2]; exact .int i t
      exact ReadsAll.cons (as := []) (bs := []) r (keys_read h3)
    · have r : Reads h e.key (keyPy kv.1) [] := by rw [e1, e2]; exact .str x t
      exact ReadsAll.cons (as := []) (bs := []) r (keys_read h3)
theorem vals_pairs {P : Program} {w : World} : ∀ {es : List DictEntry} {kvs : List (Key × Value)}, Pairs (mixKind P w) es kvs → es.map (·.val) = kvs.map (·.2)
  | _, _, .nil => rfl
  | _, _, .cons h1 h2 h3 => by rw [List.map_cons, List.map_cons, h2, vals_pairs h3]
theorem kv_parts : ∀ {ks : List Key} {vs : List V} {rs : List (Key × Value)}, ks.length = vs.length → KV (ks.zip vs) rs → rs.map (·.1) = ks ∧ Vals vs (rs.map (·.2))
  | [], [], _, _, h => by cases h; exact ⟨rfl, .nil⟩
  | k :: ks, v :: vs, _, l, h => by
    have h' : KV ((k, v) :: ks.zip vs) _ := h
    cases h' with
    | cons h1 h2 =>
      obtain ⟨a, b⟩ := kv_parts (by simpa using l) h2
      refine ⟨?_, .cons h1.2 b⟩
      rw [List.map_cons, a, ← h1.1]
mutual
theorem readsD (I : Inv X pins σ H s) (S : Stat s.heap) : ∀ (d : D) (v : V) (u : Value) (p : PyData), toPr d = some p → Rep X.K H m d v → RelV v u → ∃ as, Reads s.heap u p as ∧ sysModules ∉ as
  | .non, v, u, p, e, h, r => by unfold toPr at e; unfold Rep at h; cases e; subst h; cases r; exact ⟨_, .none, List.not_mem_nil⟩
  | .bl b, v, u, p, e, h, r => by unfold toPr at e; unfold Rep at h; cases e; subst h; cases r; exact ⟨_, .bool b, List.not_mem_nil⟩
  | .int i, v, u, p, e, h, r => by unfold toPr at e; unfold Rep at h; cases e; subst h; obtain ⟨t, rfl⟩ := r; exact ⟨_, .int i t, List.not_mem_nil⟩
  | .str x, v, u, p, e, h, r => by unfold toPr at e; unfold Rep at h; cases e; subst h; obtain ⟨t, rfl⟩ := r; exact ⟨_, .str x t, List.not_mem_nil⟩
  | .lst xs, v, u, p, e, h, r => by
    unfold toPr at e; unfold Rep at h
    obtain ⟨a, vs, rfl, _, q, rl⟩ := h
    cases r
    cases e2 : toPrL xs with
    | none => rw [e2] at e; cases e
    | some ps =>
      rw [e2] at e; cases e
      obtain ⟨its, rv, ⟨o, n, ho, hc, _, hd⟩, _⟩ := I.list (SqL.of (K := X.K) q)
      obtain ⟨as, hr, hn⟩ := readsDL I S xs vs its ps e2 rl rv
      refine ⟨_, .list ho hc hd hr, fun z => ?_⟩
      rcases List.mem_cons.mp z with z | z
      · exact not_mods S ho hd z
      · exact hn z
  | .tup xs, v, u, p, e, h, r => by
    unfold toPr at e; unfold Rep at h
    obtain ⟨a, vs, rfl, q, rl⟩ := h
    cases r
    cases e2 : toPrL xs with
    | none => rw [e2] at e; cases e
    | some ps =>
      rw [e2] at e; cases e
      obtain ⟨its, rv, ⟨o, ho, hc, n, hd⟩, _⟩ := I.tuple q
      obtain ⟨as, hr, hn⟩ := readsDL I S xs vs its ps e2 rl rv
      exact ⟨_, .tuple ho hc hd hr, hn⟩
  | .dct ks xs, v, u, p, e, h, r => by
    unfold toPr at e; unfold Rep at h
    obtain ⟨a, vs, rfl, _, q, l, rl⟩ := h
    cases r
    cases e2 : toPrL xs with
    | none => rw [e2] at e; cases e
    | some ps =>
      rw [e2] at e; cases e
      obtain ⟨_, hs, rs, kv, o, es, ep, ho, ex, hd, _, pr, _⟩ := dk_of I.hok q
      obtain ⟨k1, k2⟩ := kv_parts l kv
      obtain ⟨as, hr, hn⟩ := readsDL I S xs vs _ ps e2 rl k2
      have lp : (ks.map keyPy).length = ps.length := by rw [List.length_map, l, toPrL_len e2, rl.length]
      have rk : ReadsAll s.heap (es.toList.map (·.key)) (((ks.map keyPy).zip ps).map (·.1)) [] := by
        rw [map_fst_zip' _ _ lp, ← k1, List.map_map]
        exact keys_read pr
      have rvv : ReadsAll s.heap (es.toList.map (·.val)) (((ks.map keyPy).zip ps).map (·.2)) as := by
        rw [map_snd_zip' _ _ lp, vals_pairs pr]
        exact hr
      refine ⟨_, .dict ho ex.1 hd rk rvv, fun z => ?_⟩
      rcases List.mem_append.mp z with z | z
      · rcases List.mem_cons.mp z with z | z
        · exact (beq_eq_false_iff_ne.mp hs) z.symm
        · exact nomatch z
      · exact hn z
  | .ref _, v, u, p, e, h, r => by unfold toPr at e; cases e
  | .frz _, v, u, p, e, h, r => by unfold toPr at e; cases e
  | .clo _ _ _, v, u, p, e, h, r => by unfold toPr at e; cases e
  | .exn _ _ _ _, v, u, p, e, h, r => by unfold toPr at e; cases e
  | .fn _, v, u, p, e, h, r => by unfold toPr at e; cases e
theorem readsDL (I : Inv X pins σ H s) (S : Stat s.heap) : ∀ (ds : List D) (vs : List V) (us : List Value) (ps : List PyData), toPrL ds = some ps → RepL X.K H m ds vs → Vals vs us → ∃ as, ReadsAll s.heap us ps as ∧ sysModules ∉ as
  | [], vs, us, ps, e, h, r => by unfold toPrL at e; unfold RepL at h; cases e; subst h; cases r; exact ⟨_, .nil, List.not_mem_nil⟩
  | d :: ds, vs, us, ps, e, h, r => by
    unfold toPrL at e; unfold RepL at h
    obtain ⟨v, rr, rfl, h1, h2⟩ := h
    cases r with
    | cons r1 r2 =>
      cases e1 : toPr d with
      | none => rw [e1] at e; cases e
      | some p =>
        cases e2 : toPrL ds with
        | none => rw [e1, e2] at e; cases e
        | some ps' =>
          rw [e1, e2] at e; cases e
          obtain ⟨as, q1, n1⟩ := readsD I S d v _ p e1 h1 r1
          obtain ⟨bs, q2, n2⟩ := readsDL I S ds rr _ ps' e2 h2 r2
          exact ⟨_, .cons q1 q2, fun z => (List.mem_append.mp z).elim n1 n2⟩
end
/-- a value, or the list that a slot alone holds -/
theorem readsW (I : Inv X pins σ H s) (S : Stat s.heap) : ∀ (d : D) (v : V) (u : Value) (p : PyData), toPr d = some p → RepW X.K H m d v → RelV v u → ∃ as, Reads s.heap u p as ∧ sysModules ∉ as
  | .lst xs, v, u, p, e, h, r => by
    unfold toPr at e; unfold RepW at h
    obtain ⟨a, vs, rfl, q, rl⟩ := h
    cases r
    cases e2 : toPrL xs with
    | none => rw [e2] at e; cases e
    | some ps =>
      rw [e2] at e; cases e
      obtain ⟨its, rv, ⟨o, n, ho, hc, _, hd⟩, _⟩ := I.list (SqL.of (K := X.K) q)
      obtain ⟨as, hr, hn⟩ := readsDL (m := m) I S xs vs its ps e2 rl rv
      refine ⟨_, .list ho hc hd hr, fun z => ?_⟩
      rcases List.mem_cons.mp z with z | z
      · exact not_mods S ho hd z
      · exact hn z
  | .non, v, u, p, e, h, r => readsD (m := m) I S _ v u p e h r
  | .bl _, v, u, p, e, h, r => readsD (m := m) I S _ v u p e h r
  | .int _, v, u, p, e, h, r => readsD (m := m) I S _ v u p e h r
  | .str _, v, u, p, e, h, r => readsD (m := m) I S _ v u p e h r
  | .tup _, v, u, p, e, h, r => readsD (m := m) I S _ v u p e h r
  | .dct _ _, v, u, p, e, h, r => readsD (m := m) I S _ v u p e h r
  | .ref _, v, u, p, e, h, r => by unfold toPr at e; cases e
  | .frz _, v, u, p, e, h, r => by unfold toPr at e; cases e
  | .clo _ _ _, v, u, p, e, h, r => by unfold toPr at e; cases e
  | .exn _ _ _ _, v, u, p, e, h, r => by unfold toPr at e; cases e
  | .fn _, v, u, p, e, h, r => by unfold toPr at e; cases e
end
end Mn

namespace Mn
open PySem PySem.Spec PyProof.Rows L2
/-! ### sum, tuple, list -/
section
variable {X : Cx}
theorem repl_ints_of {K : PySem.W.Frag} {H : Hp} {m : Ms} : ∀ {ns : List Int} {vs : List V}, RepL K H m (ns.map D.int) vs → vs = ns.map V.int
  | [], vs, h => by unfold List.map RepL at h; exact h
  | n :: ns, vs, h => by
    unfold List.map RepL at h
    obtain ⟨v, r, rfl, h1, h2⟩ := h
    unfold Rep at h1
    rw [h1, repl_ints_of h2]
    rfl
def sumD : On := fun ds hc P => match ds with
  | [.lst xs] => ∃ ns : List Int, xs = ns.map D.int ∧ P (.int ns.sum)
  | _ => False
theorem bf_sum (hc : X.calm = true) : CallR X (.builtin "sum") (LVn X.K sumD) := by
  intro pins s σ H xs us Q I r h
  obtain ⟨hc', m, ds, P, w, h1, f, fin⟩ := h
  unfold sumD at f
  split at f
  · obtain ⟨x, rfl, k1⟩ := wl1 h1
    unfold RepW at k1
    obtain ⟨p, vs, rfl, q, rl⟩ := k1
    obtain ⟨ns, rfl, pd⟩ := f
    rw [repl_ints_of rl] at q
    exact cr_sum hc pins s σ H _ us Q I r ⟨p, ns, rfl, .of q, fin _ pd _ _ (.refl H) rep_int⟩
  · exact f.elim
def tupleFD : On := fun ds hc P => match ds with
  | [.lst xs] => P (.tup xs)
  | [.frz xs] => P (.tup xs)
  | [.tup xs] => P (.tup xs)
  | [.ref a] => oth (hc a) fun xs => P (.tup xs)
  | _ => False
theorem bt_tuple : CallR X (.type "tuple") (LVn X.K tupleFD) := by
  intro pins s σ H xs us Q I r h
  obtain ⟨hc', m, ds, P, w, h1, f, fin⟩ := h
  unfold tupleFD at f
  split at f
  · obtain ⟨x, rfl, k1⟩ := wl1 h1
    unfold RepW at k1
    obtain ⟨p, vs, rfl, q, rl⟩ := k1
    exact call_tuple_of pins s σ H _ us Q I r ⟨p, vs, rfl, .inl ⟨.of q, fun l n => fin _ f _ _ (same_upd n) (rep_tup w.mu n rl)⟩⟩
  · obtain ⟨x, rfl, k1⟩ := wl1 h1
    unfold RepW Rep at k1
    obtain ⟨p, vs, rfl, q, rl⟩ := k1
    exact call_tuple_of pins s σ H _ us Q I r ⟨p, vs, rfl, .inl ⟨q.sq, fun l n => fin _ f _ _ (same_upd n) (rep_tup w.mu n rl)⟩⟩
  · obtain ⟨x, rfl, k1⟩ := wl1 h1
    unfold RepW Rep at k1
    obtain ⟨p, vs, rfl, q, rl⟩ := k1
    refine call_tuple_of pins s σ H _ us Q I r ⟨p, vs, rfl, .inr ⟨q, fin _ f _ _ (.refl H) ?_⟩⟩
    unfold Rep
    exact ⟨p, vs, rfl, q, rl⟩
  · obtain ⟨x, rfl, k1⟩ := wl1 h1
    unfold RepW Rep at k1
    subst k1
    obtain ⟨zs, e, f⟩ := oth_of f
    obtain ⟨vs, q, rl⟩ := w.heap _ _ e
    exact call_tuple_of pins s σ H _ us Q I r ⟨_, vs, rfl, .inl ⟨.of q, fun l n => fin _ f _ _ (same_upd n) (rep_tup w.mu n rl)⟩⟩
  · exact f.elim
def listFD : On := fun ds hc P => match ds with
  | [.lst xs] => P (.lst xs)
  | [.frz xs] => P (.lst xs)
  | [.tup xs] => P (.lst xs)
  | _ => False
theorem bt_list : CallR X (.type "list") (LVn X.K listFD) := by
  intro pins s σ H xs us Q I r h
  obtain ⟨hc', m, ds, P, w, h1, f, fin⟩ := h
  unfold listFD at f
  split at f
  · obtain ⟨x, rfl, k1⟩ := wl1 h1
    unfold RepW at k1
    obtain ⟨p, vs, rfl, q, rl⟩ := k1
    exact call_list_of pins s σ H _ us Q I r ⟨p, vs, rfl, .inl (.of q), fun l n => fin _ f _ _ (same_upd n) (rep_lst w.mu n rl)⟩
  · obtain ⟨x, rfl, k1⟩ := wl1 h1
    unfold RepW Rep at k1
    obtain ⟨p, vs, rfl, q, rl⟩ := k1
    exact call_list_of pins s σ H _ us Q I r ⟨p, vs, rfl, .inl q.sq, fun l n => fin _ f _ _ (same_upd n) (rep_lst w.mu n rl)⟩
  · obtain ⟨x, rfl, k1⟩ := wl1 h1
    unfold RepW Rep at k1
    obtain ⟨p, vs, rfl, q, rl⟩ := k1
    exact call_list_of pins s σ H _ us Q I r ⟨p, vs, rfl, .inr q, fun l n => fin _ f _ _ (same_upd n) (rep_lst w.mu n rl)⟩
  · exact f.elim
/-! ### xs[::-1] -/
def revD : O1
  | .lst xs, _, P => P (.lst xs.reverse)
  | _, _, _ => False
end
theorem RepL.rev {K : PySem.W.Frag} {H : Hp} {m : Ms} : ∀ {ds : List D} {vs : List V}, RepL K H m ds vs → RepL K H m ds.reverse vs.reverse
  | [], vs, h => by unfold RepL at h; subst h; exact RepL.nil
  | d :: ds, vs, h => by
    unfold RepL at h
    obtain ⟨v, r, rfl, h1, h2⟩ := h
    rw [List.reverse_cons, List.reverse_cons]
    exact (RepL.rev h2).append (RepL.cons h1 RepL.nil)
section
variable {X : Cx} {W : WX} {e : Expr} {ce : CEx} {pos : Pos}
theorem ce_rev {k : Nat} {p1 p2 p3 : Pos} (h : CB X W e ce) : CE X W (.Subscript e (.Slice none none (some (.UnaryOp .USub (.Constant (.int 1) k p1) p2)) p3) pos) (cUn revD ce) :=
  ⟨pe_wk (pe_revL h.p) fun σ H Q ⟨en, sc, hc, m, E, P, r, k, xo, fin⟩ =>
    ⟨en, sc, hc, m, E, _, r, k, xo, fun d hc1 p v H1 m1 x1 q => by
      have q := q.w (r.call x1)
      cases d <;> try exact p.elim
      rename_i xs
      unfold RepW at q
      obtain ⟨a, vs, rfl, q1, rl⟩ := q
      refine ⟨a, vs, rfl, .of q1, fun l n => ?_⟩
      exact fin _ hc1 p _ _ _ (x1.trans (.same x1.toWd (same_upd n))) (rep_lst x1.mu n rl.rev)⟩⟩
/-! ### x, y = [], e -/
theorem Rs.tmp {K : PySem.W.Frag} {en : En} {σ : L2.St} {H : Hp} {sc : List Sl} {hc : CH} {m : Ms} (r : Rs K en σ H sc hc m) {p : Addr} {ds : List D} {vs : List V} (n : H p = none) (q : RepL K H m ds vs) :
    Rs K en σ (upd H p (.lst vs)) sc hc (fun a => m a ∨ a = p) ∧ Stp H m (upd H p (.lst vs)) (fun a => m a ∨ a = p) ∧ en.H p = none ∧ hc p = none ∧ ∀ (j : Nat) (es : List D), sc[j]? = some (Sl.own es) → σ[j]? ≠ some (some (V.ref p)) := by
  have st : Stp H m (upd H p (.lst vs)) (fun a => m a ∨ a = p) := ⟨fun a o e _ _ => same_upd n a o e, fun a z => z.elim .inl fun e => .inr (by rw [e]; exact n), fun a o e => by rw [same_upd n a o e]; simp⟩
  have e0 : en.H p = none := by
    cases e : en.H p with
    | none => rfl
    | some o => exact absurd n (r.live p o e)
  have hn := hc_none r.toWd n
  refine ⟨⟨⟨⟨tabs_put r.tab (.inl n), fun a z => ?_, fun a ds' e => .inl (r.hm a ds' e), fun a ds' e => ?_⟩, r.emut, r.ehm, fun a o e t h => same_upd n a o (r.keep a o e t h), fun a z => ?_, fun a z h => .inl (r.hold a z h), r.hgrow, fun a o e => ?_⟩, fun j d e => ?_, fun j ds' e => ?_, r.sep, r.len⟩, st, e0, hn, fun j es e z => ?_⟩
  · rcases z with z | rfl
    · obtain ⟨ws, e⟩ := r.mu a z
      exact ⟨ws, same_upd n _ _ e⟩
    · exact ⟨vs, upd_same⟩
  · obtain ⟨ws, e1, q1⟩ := r.heap a ds' e
    exact ⟨ws, same_upd n _ _ e1, RepL.mono r.mu st _ _ q1⟩
  · rcases z with z | rfl
    · exact r.grow a z
    · exact .inr e0
  · cases e2 : H a with
    | none => exact absurd e2 (r.live a o e)
    | some u => rw [same_upd n a u e2]; simp
  · obtain ⟨v, e1, q1⟩ := r.slot j d e
    exact ⟨v, e1, Rep.mono r.mu st _ _ q1⟩
  · obtain ⟨a, ws, e1, e2, e3, e4, e5, q1⟩ := r.own j ds' e
    exact ⟨a, ws, e1, .inl e2, e3, e4, same_upd n _ _ e5, RepL.mono r.mu st _ _ q1⟩
  · obtain ⟨a, ws, e1, e2, e3, e4, e5, q1⟩ := r.own j es e
    rw [z] at e1; cases e1
    rw [n] at e5; cases e5
theorem Rs.owned {K : PySem.W.Frag} {en : En} {σ : L2.St} {H : Hp} {sc : List Sl} {hc : CH} {m : Ms} (r : Rs K en σ H sc hc m) (i : Nat) {p : Addr} (mp : m p) (e0 : en.H p = none) (hn : hc p = none) (hp : H p = some (.lst []))
    (no : ∀ (j : Nat) (es : List D), sc[j]? = some (Sl.own es) → σ[j]? ≠ some (some (V.ref p))) : Rs K en (σ.set i (some (.ref p))) H (sc.set i (.own [])) hc m := by
  have hs : ∀ {j : Nat} {x : Sl}, (sc.set i (.own []))[j]? = some x → (i = j ∧ i < sc.length ∧ x = .own []) ∨ (i ≠ j ∧ sc[j]? = some x) := fun {j x} e => by
    by_cases h : i = j
    · subst h
      by_cases l : i < sc.length
      · rw [List.getElem?_set_self l] at e; cases e; exact .inl ⟨rfl, l, rfl⟩
      · rw [List.getElem?_eq_none (by rw [List.length_set]; omega)] at e; cases e
    · rw [List.getElem?_set_ne h] at e; exact .inr ⟨h, e⟩
  have hv : ∀ {j : Nat}, i < sc.length → (σ.set i (some (V.ref p)))[i]? = some (some (V.ref p)) := fun {j} l => List.getElem?_set_self (by rw [← r.len]; exact l)
  refine ⟨r.toEx, fun j d e => ?_, fun j ds e => ?_, fun j l ds es a e1 e2 e3 e4 => ?_, by rw [List.length_set, List.length_set]; exact r.len⟩
  · rcases hs e with ⟨_, _, z⟩ | ⟨h, e⟩
    · cases z
    · rw [List.getElem?_set_ne h]; exact r.slot j d e
  · rcases hs e with ⟨rfl, l, z⟩ | ⟨h, e⟩
    · cases z
      exact ⟨p, [], hv (j := 0) l, mp, e0, hn, hp, RepL.nil⟩
    · rw [List.getElem?_set_ne h]; exact r.own j ds e
  · rcases hs e1 with ⟨rfl, l1, _⟩ | ⟨h1, e1⟩ <;> rcases hs e2 with ⟨rfl, l2, _⟩ | ⟨h2, e2⟩
    · rfl
    · rw [hv (j := 0) l1] at e3; cases e3
      rw [List.getElem?_set_ne h2] at e4
      exact (no _ _ e2 e4).elim
    · rw [hv (j := 0) l2] at e4; cases e4
      rw [List.getElem?_set_ne h1] at e3
      exact (no _ _ e1 e3).elim
    · rw [List.getElem?_set_ne h1] at e3
      rw [List.getElem?_set_ne h2] at e4
      exact r.sep _ _ _ _ _ e1 e2 e3 e4
def cParO (i j : Nat) (ca : CEx) : CSx := fun C sc hc => ca C.xp sc hc fun d hc1 => C.nx ((sc.set i (.own [])).set j (.val d)) hc1
theorem cs_parO {i j : Nat} {x y : Str} {b : Expr} {px py pt p3 : Pos} {kt k2 : Nat} {p2 : Pos} (hc : X.calm = true) (hN : X.N.Nodup) (hb : CE X W b ce) (hw : swappedStores [.Tuple [.Name x px, .Name y py] kt pt] (.Tuple [.List [] p3, b] k2 p2) X.env = pure (some [x, y]) := by rfl) (hi : X.N[i]? = some x := by rfl) (hj : X.N[j]? = some y := by rfl) (hij : i ≠ j := by decide)
    (hx : X.env.scope.names.lookup x = some .local := by rfl) (hy : X.env.scope.names.lookup y = some .local := by rfl)
    (hs : swapsWithSole [.Tuple [.Name x px, .Name y py] kt pt] (.Tuple [.List [] p3, b] k2 p2) pos.line X.env = pure false := by rfl)
    (h1 : starEach [.List [] p3, b] X.env = (false, eval (.List [] p3) X.env) :: starEach [b] X.env := by rfl) (h2 : starEach [b] X.env = (false, eval b X.env) :: starEach [] X.env := by rfl) : CS X W (.Assign [.Tuple [.Name x px, .Name y py] kt pt] (.Tuple [.List [] p3, b] k2 p2) pos) (cParO i j ce) :=
  ⟨ps_wk (ps_par hc hN hi hj hij hx hy (pa_cons (pe_lst pa_nil) (pa_cons hb.p pa_nil h2) h1) hw hs) fun D σ H ⟨en, sc, hc, m, C, r, k, f⟩ => by
    refine ⟨by show (0 : Nat) ≤ sizeLine; exact Nat.zero_le _, fun p n => ?_⟩
    obtain ⟨r1, s1, e0, hn, no⟩ := r.tmp (ds := []) n RepL.nil
    refine ⟨en, sc, hc, _, C.xp, _, r1, k, f.xp, fun d hc2 pd v H2 m2 x2 q2 => ?_⟩
    have r2 := r1.call x2
    have hc2n : hc2 p = none := by
      cases e : hc2 p with
      | none => rfl
      | some ds =>
        rcases x2.hgrow p ds e with z | z
        · exact (z hn).elim
        · rw [show (⟨upd H p (.lst []), hc, fun a => m a ∨ a = p⟩ : En).H p = some (.lst []) from upd_same] at z; cases z
    have r3 := r2.owned i (x2.hold p (.inr rfl) hn) e0 hc2n (x2.keep p _ upd_same trivial hn) no
    exact ⟨.ref p, v, rfl, f.nx _ hc2 pd _ H2 m2 (r3.put j q2) (s1.trans x2.stp)⟩⟩
end
/-! ### repr -/
def Sh (n c : Nat) (d : D) : Prop := ∃ p, toPr d = some p ∧ bigP p = true ∧ p.depth ≤ n ∧ p.shown.length ≤ c
def shw (d : D) : Str := match toPr d with
  | some p => p.shown
  | none => ""
def ShOk (d : D) : Prop := ∃ n c, n ≤ 64 ∧ c ≤ sizeLine ∧ Sh n c d
def reprD : On := fun ds _ P => match ds with
  | [d] => ShOk d ∧ P (.str (shw d))
  | _ => False
theorem bf_repr {X : Cx} {k : Nat} (g : RG k X.A) (st : statK X.K = true) : CallR X (.builtin "repr") (LVn X.K reprD) := by
  intro pins s σ H xs us Q I r h
  obtain ⟨hc', m, ds, P, w, h1, f, fin⟩ := h
  unfold reprD at f
  split at f
  · rename_i d
    obtain ⟨v, rfl, k1⟩ := wl1 h1
    obtain ⟨⟨n, c, hn, hcz, p, ep, sp, dp, lp⟩, q⟩ := f
    unfold shw at q
    rw [ep] at q
    obtain ⟨u, rfl, ru⟩ := vals1 r
    have S : Stat s.heap := stat_of I.kIn I.nolimit st
    obtain ⟨as, rd, nm⟩ := readsW I S d v u p ep k1 ru
    have hz : p.shown.length ≤ sizeLine := by omega
    have done : ∀ (h' : Heap) (t tk : Nat), (∀ b o, s.heap.get? b = some o → h'.get? b = some o) → EP X pins σ Q (.str p.shown t) { s with heap := h', toks := tk } := fun h' t tk hk =>
      ⟨.str p.shown, H, I.kept (t' := tk) hk, ⟨t, rfl⟩, fin _ q _ _ (.refl H) rep_str⟩
    have un := g.r.un
    cases rd with
    | none => exact PySem.P.repr_of_none (done s.heap _ _ fun _ _ e => e)
    | bool b => exact PySem.P.repr_of_bool (done s.heap _ _ fun _ _ e => e)
    | int i t => exact call_repr_slot (T := "int") (idr := "int.__repr__") (by omega) (typeIs_int s i t) F.slot_int_repr.toG (call_intrepr S sp ⟨_, _, rfl, done s.heap _ _ fun _ _ e => e⟩)
    | str x t => exact PySem.P.repr_of_str (done s.heap _ _ fun _ _ e => e) hz
    | list a1 a2 a3 a4 => exact repr_tree S (.list a1 a2 a3 a4) sp nm g.g (by omega) hz (fun h' t tk hk => done h' t tk hk)
    | tuple a1 a2 a3 a4 => exact repr_tree S (.tuple a1 a2 a3 a4) sp nm g.g (by omega) hz (fun h' t tk hk => done h' t tk hk)
    | dict a1 a2 a3 a4 a5 => exact repr_tree S (.dict a1 a2 a3 a4 a5) sp nm g.g (by omega) hz (fun h' t tk hk => done h' t tk hk)
  · exact f.elim
theorem Sh.up {n c n2 c2 : Nat} {d : D} (h : Sh n c d) (hn : n ≤ n2) (hc : c ≤ c2) : Sh n2 c2 d := by
  obtain ⟨p, a, b, f, g⟩ := h
  exact ⟨p, a, b, by omega, by omega⟩
theorem Sh.ok {n c : Nat} {d : D} (h : Sh n c d) (hn : n ≤ 64 := by decide) (hc : c ≤ sizeLine := by decide) : ShOk d := ⟨n, c, hn, hc, h⟩
theorem sh_non : Sh 0 4 .non := ⟨.none, by unfold toPr; rfl, rfl, Nat.le_refl _, by decide⟩
theorem sh_bl {b : Bool} : Sh 0 5 (.bl b) := ⟨.bool b, by unfold toPr; rfl, rfl, Nat.le_refl _, by cases b <;> decide⟩
theorem sh_str {s : Str} {c : Nat} (h : (reprText s).length ≤ c) : Sh 0 c (.str s) := ⟨.str s, by unfold toPr; rfl, rfl, Nat.le_refl _, by rw [PyData.shown]; exact h⟩
theorem textFrom_up : ∀ (ts : List Str) (k : Nat) (acc : Str), (textFrom k acc ts).length ≤ acc.length + piled ts
  | [], k, acc => by show acc.length ≤ _; omega
  | t :: r, k, acc => by
    have h := textFrom_up r (k + 1) (acc ++ (if k > 0 then ", " else "" : String) ++ t)
    rw [piled_cons]
    rw [strLen_append, strLen_append] at h
    have e : (((if k > 0 then ", " else "" : String) : Str)).length ≤ 2 := by split <;> decide
    show (textFrom (k + 1) (acc ++ (if k > 0 then ", " else "" : String) ++ t) r).length ≤ _
    omega
theorem piled_up {c : Nat} : ∀ ts : List Str, (∀ t ∈ ts, t.length ≤ c) → piled ts ≤ ts.length * (c + 2)
  | [], _ => by rw [piled_nil]; exact Nat.zero_le _
  | t :: r, h => by
    have h1 := piled_up r fun x hx => h x (List.mem_cons_of_mem _ hx)
    have h2 := h t (List.mem_cons_self ..)
    rw [piled_cons, List.length_cons, Nat.succ_mul]
    omega
theorem listText_len_le (ts : List Str) (c : Nat) (h : ∀ t ∈ ts, t.length ≤ c) : (listText ts).length ≤ ts.length * (c + 2) + 2 ∧ (tupleText ts).length ≤ ts.length * (c + 2) + 3 := by
  have hp := piled_up ts h
  constructor
  · unfold listText
    have h1 := textFrom_up ts 0 "["
    rw [strLen_append]
    have e1 : (("[" : String) : Str).length = 1 := rfl
    have e2 : (("]" : String) : Str).length = 1 := rfl
    rw [e1] at h1
    rw [e2]
    omega
  · unfold tupleText
    rw [strLen_append, strLen_append]
    have e1 : ((("(" : String) : Str)).length = 1 := rfl
    have e3 : (((if ts.length == 1 then ",)" else ")" : String) : Str)).length ≤ 2 := by split <;> decide
    rw [e1]
    by_cases h0 : ts = []
    · subst h0
      have e4 : (Str.join ", " []).length = 0 := rfl
      rw [e4]; omega
    · have := join_length_add ts h0
      omega
theorem sh_big {i : Int} (h : i.natAbs < 2 ^ 12900) : Sh 0 12901 (.int i) := by
  have t : IntTxt i = true := decide_eq_true h
  refine ⟨.int i, by unfold toPr; rfl, by unfold bigP; exact t, Nat.le_refl _, ?_⟩
  rw [PyData.shown, PySem.ofString_length]
  exact int_text_length_le (k := 12900) (by decide) (log_of t)
theorem sh_i {i : Int} (h : i.natAbs < 2 ^ 1920) : Sh 0 1921 (.int i) := by
  have hl : i.natAbs.log2 < 1920 := by
    by_cases z : i.natAbs = 0
    · rw [z]; decide
    · exact (Nat.log2_lt z).mpr h
  refine ⟨.int i, by unfold toPr; rfl, by unfold bigP; exact decide_eq_true (Nat.lt_of_lt_of_le h (Nat.pow_le_pow_right (by decide) (by decide))), Nat.le_refl _, ?_⟩
  rw [PyData.shown]
  exact PyProof.Rows.int_text_len_1921 hl
/-- an integer of at most so many digits -/
theorem sh_dig {i : Int} {k : Nat} (h0 : 0 < k) (h : i.natAbs < 10 ^ k) (hk : i.natAbs < 2 ^ 12900) : Sh 0 (k + 1) (.int i) := by
  refine ⟨.int i, by unfold toPr; rfl, by unfold bigP; exact decide_eq_true hk, Nat.le_refl _, ?_⟩
  rw [PyData.shown, PySem.ofString_length]
  exact int_text_length_le10 h0 h
theorem shL {n c : Nat} : ∀ ds : List D, (∀ d ∈ ds, Sh n c d) → ∃ ps, toPrL ds = some ps ∧ bigPs ps = true ∧ PyData.depthAll ps ≤ n ∧ (PyData.shownAll ps).length = ds.length ∧ ∀ t ∈ PyData.shownAll ps, t.length ≤ c
  | [], _ => ⟨[], by unfold toPrL; rfl, rfl, Nat.zero_le _, rfl, fun t h => by simp [PyData.shownAll] at h⟩
  | d :: ds, h => by
    obtain ⟨p, a, b, f, g⟩ := h d (List.mem_cons_self ..)
    obtain ⟨ps, a2, b2, f2, g2, l2⟩ := shL ds fun x hx => h x (List.mem_cons_of_mem _ hx)
    refine ⟨p :: ps, by unfold toPrL; rw [a, a2], by unfold bigPs; rw [b, b2]; rfl, by simp [PyData.depthAll]; omega, by simp [PyData.shownAll, g2], fun t ht => ?_⟩
    simp only [PyData.shownAll, List.mem_cons] at ht
    rcases ht with rfl | ht
    · exact g
    · exact l2 t ht
theorem sh_lst {n c : Nat} {ds : List D} (h : ∀ d ∈ ds, Sh n c d) : Sh (n + 1) (ds.length * (c + 2) + 2) (.lst ds) := by
  obtain ⟨ps, a, b, f, g, l⟩ := shL ds h
  refine ⟨.list ps, by unfold toPr; rw [a]; rfl, by unfold bigP; exact b, by simp [PyData.depth]; omega, ?_⟩
  have := (listText_len_le (PyData.shownAll ps) c l).1
  rw [g] at this
  simpa [PyData.shown] using this
theorem sh_tup {n c : Nat} {ds : List D} (h : ∀ d ∈ ds, Sh n c d) : Sh (n + 1) (ds.length * (c + 2) + 3) (.tup ds) := by
  obtain ⟨ps, a, b, f, g, l⟩ := shL ds h
  refine ⟨.tuple ps, by unfold toPr; rw [a]; rfl, by unfold bigP; exact b, by simp [PyData.depth]; omega, ?_⟩
  have := (listText_len_le (PyData.shownAll ps) c l).2
  rw [g] at this
  simpa [PyData.shown] using this
section
variable {hc : CH} {P : D → Prop} {i j : Nat} {a : Addr} {xs ys : List D} {d : D} {ca : CEx} {C : CEnds} {sc : List Sl} {l u : Int}
theorem o_rev : revD (.lst xs) hc P = P (.lst xs.reverse) := rfl
theorem o_tupF : tupleFD [.lst xs] hc P = P (.tup xs) := rfl
theorem o_tupF2 : tupleFD [.tup xs] hc P = P (.tup xs) := rfl
theorem o_lstF : listFD [.lst xs] hc P = P (.lst xs) := rfl
theorem o_lstF2 : listFD [.tup xs] hc P = P (.lst xs) := rfl
theorem o_repr : reprD [d] hc P = (ShOk d ∧ P (.str (shw d))) := rfl
theorem e_ParO : cParO i j ca C sc hc = ca C.xp sc hc fun d hc1 => C.nx ((sc.set i (.own [])).set j (.val d)) hc1 := rfl
theorem o_isN1 : isND .non .non hc P = P (.bl true) := rfl
theorem o_isN2 : isND (.tup xs) .non hc P = P (.bl false) := rfl
theorem o_isN3 : isND (.int l) .non hc P = P (.bl false) := rfl
theorem o_isN4 : isND (.lst xs) .non hc P = P (.bl false) := rfl
theorem o_notN1 : notND .non .non hc P = P (.bl false) := rfl
theorem o_notN2 : notND (.tup xs) .non hc P = P (.bl true) := rfl
theorem o_notN3 : notND (.int l) .non hc P = P (.bl true) := rfl
theorem o_notN4 : notND (.lst xs) .non hc P = P (.bl true) := rfl
theorem o_sum {ns : List Int} (h : P (.int ns.sum)) : sumD [.lst (ns.map D.int)] hc P := ⟨ns, rfl, h⟩
end
/-! ### comprehensions, what they run over a letter -/
theorem lc_step {ci : CIx} {i : Nat} {ce : CEx} {own : List Nat} {E : XP} {sc : List Sl} {hc : CH} {P : D → CH → Prop}
    (h : ∀ R : List D → CH → Prop, (∀ (ds : List D) (hc1 : CH) (f : D → D), ds.length ≤ sizeLine → (∀ d ∈ ds, ∀ Nx : D → CH → Prop, Nx (f d) hc1 → ce (fun _ _ _ => False) ((wipeC sc own).set i (.val d)) hc1 Nx) → P (.lst (ds.map f)) hc1 → R ds hc1) → ci E sc hc R) :
    cLc ci (gN i) cYes ce own E sc hc P := h (fun ds hc1 => ds.length ≤ sizeLine ∧ lcW (gN i) cYes ce own sc ds [] hc1 fun out hc2 => P (.lst out) hc2) fun _ _ f z st q => ⟨z, lc_map f st q⟩
theorem lc_inv {ci : CIx} {g : CGx} {t : CTx} {ce : CEx} {own : List Nat} {E : XP} {sc : List Sl} {hc : CH} {P : D → CH → Prop}
    (h : ∀ R : List D → CH → Prop, (∀ (ds : List D) (hc1 : CH) (I : Nat → List D → CH → Prop), ds.length ≤ sizeLine → I 0 [] hc1 →
      (∀ (j : Nat) (d : D) acc hc (Nx : List D → CH → Prop), ds[j]? = some d → I j acc hc → (∀ acc' hc', I (j + 1) acc' hc' → Nx acc' hc') → g (fun _ _ _ => False) d (wipeC sc own) hc fun sc1 hc1 => t (fun _ _ _ => False) sc1 hc1 fun b hc2 =>
        if b = true then ce (fun _ _ _ => False) sc1 hc2 fun y hc3 => Nx (acc ++ [y]) hc3 else Nx acc hc2) → (∀ acc hc, I ds.length acc hc → P (.lst acc) hc) → R ds hc1) → ci E sc hc R) :
    cLc ci g t ce own E sc hc P := h (fun ds hc1 => ds.length ≤ sizeLine ∧ lcW g t ce own sc ds [] hc1 fun out hc2 => P (.lst out) hc2) fun ds hc1 I z b st q =>
      ⟨z, lcW_inv I ds 0 b (fun j d acc hc Nx e k nx => st j d acc hc Nx e (by rw [Nat.zero_add] at k; exact k) fun a h z => nx a h (by rw [Nat.zero_add]; exact z)) fun acc hc k => q acc hc (by rw [Nat.zero_add] at k; exact k)⟩
def onI (g : Int → Int) : D → D
  | .int x => .int (g x)
  | d => d
theorem rng_map {g : Int → Int} {lo hi : Int} : (rngD lo hi).map (onI g) = ((List.range (hi - lo).toNat).map fun k => g (lo + (k : Nat))).map D.int := by
  unfold rngD
  rw [List.map_map, List.map_map]
  rfl
theorem rng_mem {lo hi : Int} {d : D} (h : d ∈ rngD lo hi) : ∃ x : Int, d = .int x ∧ lo ≤ x ∧ x < hi := by
  unfold rngD at h
  obtain ⟨k, hk, rfl⟩ := List.mem_map.mp h
  rw [List.mem_range] at hk
  exact ⟨_, rfl, by omega, by omega⟩
theorem e_Star {ca : CEx} {c : CAx} {E : XP} {sc : List Sl} {hc : CH} {PA : List D → CH → Prop} : cStar ca c E sc hc PA = ca E sc hc fun d hc1 => match d with
  | .tup xs => c E sc hc1 fun ds hc2 => PA (xs ++ ds) hc2
  | .lst xs => c E sc hc1 fun ds hc2 => PA (xs ++ ds) hc2
  | _ => False := rfl
theorem wipe_0 {sc : List Sl} : wipeC sc [] = sc := rfl
theorem wipe_s {sc : List Sl} {v : Nat} {vs : List Nat} : wipeC sc (v :: vs) = (wipeC sc vs).set v .un := rfl
section
variable {g : CGx} {gs : CGsx} {E : XP} {d : D} {xs : List D} {n : Nat} {sc : List Sl} {hc : CH} {P : List Sl → CH → Prop}
theorem e_gNil : gNil' E [] sc hc P = P sc hc := rfl
theorem e_gCons : gCons' g gs E (d :: xs) sc hc P = g E d sc hc fun sc1 hc1 => gs E xs sc1 hc1 P := rfl
theorem e_gUnT : gUn n gs E (.tup xs) sc hc P = (xs.length = n ∧ gs E xs sc hc P) := rfl
theorem e_gUnL : gUn n gs E (.lst xs) sc hc P = (xs.length = n ∧ gs E xs sc hc P) := rfl
theorem e_gTup : gTup' n gs E (.tup xs) sc hc P = (xs.length = n ∧ gs E xs sc hc P) := rfl
end
/-! ### what is never reached -/
def cDead : CSx := fun _ _ _ => False
theorem cs_dead {X : Cx} {W : WX} {st : Stmt} : CS X W st cDead := ⟨⟨fun pins s σ H D I ⟨_, _, _, _, _, _, k, _⟩ => k.elim⟩⟩
def cDeadE : CEx := fun _ _ _ _ => False
theorem ce_dead {X : Cx} {W : WX} {e : Expr} : CE X W e cDeadE := ⟨⟨fun pins s σ H Q I ⟨_, _, _, _, _, _, _, k, _⟩ => k.elim⟩⟩
end Mn

namespace Mn
open PySem PySem.Spec PyProof.Rows L2
/-! ### bits, divmod -/
section
variable {X : Cx} {W : WX} {e : Expr} {ce : CEx} {pos apos : Pos}
def bitsD : O1
  | .int i, _, P => P (.int (Builtin.Int.intBits i : Nat))
  | _, _, _ => False
theorem ce_bits (h : CB X W e ce) (hb : attributeBase e "bit_length" X.env (eval e X.env) = eval e X.env := by rfl) (hl : (apos.endLine == pos.line) = true := by rfl) : CE X W (.Call (.Attribute e "bit_length" apos) [] [] pos) (cUn bitsD ce) :=
  ⟨pe_wk (pe_bits h.p hb hl) fun σ H Q ⟨en, sc, hc, m, E, P, r, k, xo, fin⟩ =>
    ⟨en, sc, hc, m, E, _, r, k, xo, fun d hc1 p v H1 m1 x1 q => by
      have q := q.w (r.call x1)
      cases d <;> try exact p.elim
      unfold RepW Rep at q
      exact ⟨_, q, fin _ hc1 p _ _ _ x1 rep_int⟩⟩⟩
def divmodD : On := fun ds _ P => match ds with
  | [.int i, .int j] => DivOk i j ∧ P (.tup [.int (i / j), .int (i % j)])
  | _ => False
theorem bf_divmod : CallR X (.builtin "divmod") (LVn X.K divmodD) := by
  intro pins s σ H xs us Q I r h
  obtain ⟨hc', m, ds, P, w, h1, f, fin⟩ := h
  unfold divmodD at f
  split at f
  · obtain ⟨x, y, rfl, k1, k2⟩ := wl2 h1
    unfold RepW Rep at k1 k2
    subst k1; subst k2
    exact call_divmodW pins s σ H _ us Q I r ⟨_, _, rfl, f.1, fun l n => fin _ f.2 _ _ (same_upd n) (rep_tup w.mu n (RepL.cons rep_int (RepL.cons rep_int RepL.nil)))⟩
  · exact f.elim
/-! ### in -/
def inG (neg : Bool) (x : D) (xs : List D) (P : D → Prop) : Prop := ∃ p ps, toPy x = some p ∧ toPyL xs = some ps ∧ p.canLay0 = true ∧ p.depth ≤ 64 ∧ PyData.canLayAll0 ps = true ∧ P (.bl (if neg then !ps.any fun z => PyData.eqv z p else ps.any fun z => PyData.eqv z p))
def inD : O2 := fun x y _ P => match y with
  | .lst ys => inG false x ys P
  | .tup ys => inG false x ys P
  | _ => False
def ninD : O2 := fun x y _ P => match y with
  | .lst ys => inG true x ys P
  | .tup ys => inG true x ys P
  | _ => False
theorem op_inDD {k : Nat} (g : RG k X.A) : OpR X (compareOp .In) (LV2 X.K inD) := by
  intro pins s σ H x y v u Q I rx ry h
  obtain ⟨hc, m, dx, dy, P, w, h1, h2, f, fin⟩ := h
  have un := g.r.un
  cases dy <;> try exact f.elim
  all_goals
    obtain ⟨p, ps, e1, e2, c1, l1, c2, q⟩ := f
    obtain ⟨as, r1⟩ := Dp.reads I p x v (dpw_of _ _ _ e1 h1) rx
  · obtain ⟨bs, r2⟩ := Dp.reads I (.tuple ps) y u (dpw_of _ _ _ (by unfold toPy; rw [e2]; rfl) h2) ry
    exact SeqAt.in_tuple_reads r2 r1 c2 c1 (Nat.lt_of_le_of_lt (Nat.add_le_add_left (Nat.min_le_right _ _) _) (by omega)) ⟨.bl _, H, I, rfl, eq_flat fin q⟩
  · obtain ⟨bs, r2⟩ := Dp.reads I (.list ps) y u (dpw_of _ _ _ (by unfold toPy; rw [e2]; rfl) h2) ry
    exact SeqAt.in_list_reads r2 r1 c2 c1 (Nat.lt_of_le_of_lt (Nat.add_le_add_left (Nat.min_le_right _ _) _) (by omega)) ⟨.bl _, H, I, rfl, eq_flat fin q⟩
theorem op_ninDD {k : Nat} (g : RG k X.A) : OpR X (compareOp .NotIn) (LV2 X.K ninD) := by
  intro pins s σ H x y v u Q I rx ry h
  obtain ⟨hc, m, dx, dy, P, w, h1, h2, f, fin⟩ := h
  have un := g.r.un
  cases dy <;> try exact f.elim
  all_goals
    obtain ⟨p, ps, e1, e2, c1, l1, c2, q⟩ := f
    obtain ⟨as, r1⟩ := Dp.reads I p x v (dpw_of _ _ _ e1 h1) rx
  · obtain ⟨bs, r2⟩ := Dp.reads I (.tuple ps) y u (dpw_of _ _ _ (by unfold toPy; rw [e2]; rfl) h2) ry
    exact SeqAt.notIn_tuple_reads r2 r1 c2 c1 (Nat.lt_of_le_of_lt (Nat.add_le_add_left (Nat.min_le_right _ _) _) (by omega)) ⟨.bl _, H, I, rfl, eq_flat fin q⟩
  · obtain ⟨bs, r2⟩ := Dp.reads I (.list ps) y u (dpw_of _ _ _ (by unfold toPy; rw [e2]; rfl) h2) ry
    exact SeqAt.notIn_list_reads r2 r1 c2 c1 (Nat.lt_of_le_of_lt (Nat.add_le_add_left (Nat.min_le_right _ _) _) (by omega)) ⟨.bl _, H, I, rfl, eq_flat fin q⟩
end
theorem any_ok {n m : Nat} {x : D} {p : PyData} (ex : toPy x = some p) (hx : okD n x = true) : ∀ {xs : List D} {ps : List PyData}, xs.all (okD m) = true → toPyL xs = some ps → ((ps.any fun z => PyData.eqv z p) = true ↔ x ∈ xs)
  | [], ps, _, e => by unfold toPyL at e; cases e; simp
  | y :: ys, ps, h, e => by
    unfold toPyL at e
    rw [List.all_cons, Bool.and_eq_true] at h
    split at e
    · next q qs f1 f2 =>
      cases e
      obtain ⟨q', e1, _, _, k⟩ := okPy m y h.1
      rw [f1] at e1; cases e1
      rw [List.any_cons, Bool.or_eq_true, any_ok ex hx h.2 f2, k x n p hx ex, List.mem_cons]
      exact or_congr ⟨Eq.symm, Eq.symm⟩ Iff.rfl
    · cases e
theorem inG_ok {neg : Bool} {n m : Nat} {x : D} {xs : List D} {P : D → Prop} (hx : okD n x = true) (hy : xs.all (okD m) = true) (h1 : x ∈ xs → P (.bl (!neg))) (h2 : x ∉ xs → P (.bl neg)) (hn : n ≤ 64 := by decide) : inG neg x xs P := by
  obtain ⟨p, e1, c1, l1, k1⟩ := okPy n x hx
  obtain ⟨ps, e2, c2, _, _⟩ := okPyL (okPy m) xs hy
  refine ⟨p, ps, e1, e2, c1, by omega, c2, ?_⟩
  have k := any_ok e1 hx hy e2
  cases z : ps.any fun z => PyData.eqv z p with
  | true => have := h1 (k.mp z); cases neg <;> exact this
  | false => have := h2 fun w => by rw [k.mpr w] at z; cases z
             cases neg <;> exact this
section
variable {hc : CH} {P : D → Prop} {i j : Int} {x : D} {xs : List D}
theorem o_bits : bitsD (.int i) hc P = P (.int (Builtin.Int.intBits i : Nat)) := rfl
theorem o_divmod : divmodD [.int i, .int j] hc P = (DivOk i j ∧ P (.tup [.int (i / j), .int (i % j)])) := rfl
theorem o_inL : inD x (.lst xs) hc P = inG false x xs P := rfl
theorem o_inT : inD x (.tup xs) hc P = inG false x xs P := rfl
theorem o_ninL : ninD x (.lst xs) hc P = inG true x xs P := rfl
theorem o_ninT : ninD x (.tup xs) hc P = inG true x xs P := rfl
end
end Mn

namespace Mn
open PySem PySem.Spec PyProof.Rows L2
/-! ### a new list that only a slot will hold: x = a + b, x = [.. for ..], x = list(e) -/
def LF (X : Cx) (W : WX) (c : CEx) : TE := fun σ H Q => ∃ en sc hc m E P, Rs X.K en σ H sc hc m ∧ c E sc hc P ∧ XOk X W en E ∧
  ∀ d hc', P d hc' → ∃ ds, d = .lst ds ∧ ∀ p vs H' m', Ex X.K ⟨H, hc, m⟩ H' hc' m' → m' p → H p = none → hc' p = none → H' p = some (.lst vs) → RepL X.K H' m' ds vs → Q (.ref p) H'
structure CF (X : Cx) (W : WX) (e : Expr) (c : CEx) : Prop where
  p : PE X e (LF X W c)
theorem Rs.adopt {K : PySem.W.Frag} {en : En} {σ : L2.St} {H : Hp} {sc : List Sl} {hc : CH} {m : Ms} (r : Rs K en σ H sc hc m) (i : Nat) {p : Addr} {ds : List D} {vs : List V} (mp : m p) (e0 : en.H p = none) (hn : hc p = none) (hp : H p = some (.lst vs)) (q : RepL K H m ds vs)
    (no : ∀ (j : Nat) (es : List D), sc[j]? = some (Sl.own es) → σ[j]? ≠ some (some (V.ref p))) : Rs K en (σ.set i (some (.ref p))) H (sc.set i (.own ds)) hc m := by
  have hs : ∀ {j : Nat} {x : Sl}, (sc.set i (.own ds))[j]? = some x → (i = j ∧ i < sc.length ∧ x = .own ds) ∨ (i ≠ j ∧ sc[j]? = some x) := fun {j x} e => by
    by_cases h : i = j
    · subst h
      by_cases l : i < sc.length
      · rw [List.getElem?_set_self l] at e; cases e; exact .inl ⟨rfl, l, rfl⟩
      · rw [List.getElem?_eq_none (by rw [List.length_set]; omega)] at e; cases e
    · rw [List.getElem?_set_ne h] at e; exact .inr ⟨h, e⟩
  have hv : ∀ {j : Nat}, i < sc.length → (σ.set i (some (V.ref p)))[i]? = some (some (V.ref p)) := fun {j} l => List.getElem?_set_self (by rw [← r.len]; exact l)
  refine ⟨r.toEx, fun j d e => ?_, fun j ds' e => ?_, fun j l ds es a e1 e2 e3 e4 => ?_, by rw [List.length_set, List.length_set]; exact r.len⟩
  · rcases hs e with ⟨_, _, z⟩ | ⟨h, e⟩
    · cases z
    · rw [List.getElem?_set_ne h]; exact r.slot j d e
  · rcases hs e with ⟨rfl, l, z⟩ | ⟨h, e⟩
    · cases z
      exact ⟨p, vs, hv (j := 0) l, mp, e0, hn, hp, q⟩
    · rw [List.getElem?_set_ne h]; exact r.own j ds' e
  · rcases hs e1 with ⟨rfl, l1, _⟩ | ⟨h1, e1⟩ <;> rcases hs e2 with ⟨rfl, l2, _⟩ | ⟨h2, e2⟩
    · rfl
    · rw [hv (j := 0) l1] at e3; cases e3
      rw [List.getElem?_set_ne h2] at e4
      exact (no _ _ e2 e4).elim
    · rw [hv (j := 0) l2] at e4; cases e4
      rw [List.getElem?_set_ne h1] at e3
      exact (no _ _ e1 e3).elim
    · rw [List.getElem?_set_ne h1] at e3
      rw [List.getElem?_set_ne h2] at e4
      exact r.sep _ _ _ _ _ e1 e2 e3 e4
theorem Rs.newown {K : PySem.W.Frag} {en : En} {σ : L2.St} {H H' : Hp} {sc : List Sl} {hc hc' : CH} {m m' : Ms} (r : Rs K en σ H sc hc m) (i : Nat) {p : Addr} {ds : List D} {vs : List V} (x : Ex K ⟨H, hc, m⟩ H' hc' m') (mp : m' p) (hp : H p = none) (hn : hc' p = none) (e : H' p = some (.lst vs)) (q : RepL K H' m' ds vs) :
    Rs K en (σ.set i (some (.ref p))) H' (sc.set i (.own ds)) hc' m' := by
  refine (r.call x).adopt i mp ?_ hn e q fun j es e1 z => ?_
  · cases e2 : en.H p with
    | none => rfl
    | some o => exact absurd hp (r.live p o e2)
  · obtain ⟨a, ws, e2, _, _, _, e3, _⟩ := r.own j es e1
    rw [z] at e2; cases e2
    rw [hp] at e3; cases e3
def cSetF (i : Nat) (ce : CEx) : CSx := fun C sc hc => ce C.xp sc hc fun d hc1 => match d with | .lst ds => C.nx (sc.set i (.own ds)) hc1 | _ => False
section
variable {X : Cx} {W : WX} {e a b : Expr} {ce ca cb : CEx} {pos : Pos}
theorem cs_setF {i : Nat} {x : Str} {p2 : Pos} (hN : X.N.Nodup) (he : CF X W e ce) (hi : X.N[i]? = some x := by rfl) (hx : Loc X.env.scope x := by first | exact Or.inl rfl | exact Or.inr rfl) (hs : swapsWith e (some (.Name x p2)) pos.line X.env = pure false := by rfl) (hf : X.fn x = true ∨ X.env.scope.names.lookup x = some .local := by first | exact .inl rfl | exact .inr rfl) :
    CS X W (.Assign [.Name x p2] e pos) (cSetF i ce) := ⟨ps_wk (ps_set hN hi hx he.p hs hf) fun D σ H ⟨en, sc, hc, m, C, r, k, f⟩ =>
  ⟨en, sc, hc, m, C.xp, _, r, k, f.xp, fun d hc1 p => by
    cases d <;> try exact p.elim
    exact ⟨_, rfl, fun q vs H1 m1 x1 mp hp hn e q => f.nx _ hc1 p _ H1 m1 (r.newown i x1 mp hp hn e q) x1.stp⟩⟩⟩
/-- two lists, one behind the other -/
def catD : O2
  | .lst xs, .lst ys, _, P => xs.length + ys.length ≤ sizeLine ∧ P (.lst (xs ++ ys))
  | .ref a, .lst ys, hc, P => oth (hc a) fun xs => xs.length + ys.length ≤ sizeLine ∧ P (.lst (xs ++ ys))
  | .lst xs, .ref a, hc, P => oth (hc a) fun ys => xs.length + ys.length ≤ sizeLine ∧ P (.lst (xs ++ ys))
  | _, _, _, _ => False
def LV2F (K : PySem.W.Frag) (f : O2) : R2 := fun x y H Q => ∃ hc m dx dy P, Wd K H hc m ∧ RepW K H m dx x ∧ RepW K H m dy y ∧ f dx dy hc P ∧ ∀ d, P d → ∃ ds, d = .lst ds ∧ ∀ vs p, H p = none → RepL K H m ds vs → Q (.ref p) (upd H p (.lst vs))
theorem op_catF : OpR X (binaryOp .Add) (LV2F X.K catD) := by
  intro pins s σ H x y v u Q I rx ry h
  obtain ⟨hc, m, dx, dy, P, w, h1, h2, f, fin⟩ := h
  cases dx <;> cases dy <;> try exact f.elim
  · rename_i xs ys
    unfold RepW at h1 h2
    obtain ⟨p, vs, rfl, q1, r1⟩ := h1
    obtain ⟨p2, vs2, rfl, q2, r2⟩ := h2
    obtain ⟨ds, e, fin⟩ := fin _ f.2
    cases e
    exact op_cat pins s σ H _ _ v u Q I rx ry ⟨p, p2, vs, vs2, rfl, rfl, q1, q2, by rw [← r1.length, ← r2.length]; exact f.1, fun q n => fin _ _ n (r1.append r2)⟩
  · unfold RepW at h1 h2
    unfold Rep at h2
    obtain ⟨p, vs, rfl, q1, r1⟩ := h1
    subst h2
    obtain ⟨zs, e, lz, f⟩ := oth_of f
    obtain ⟨ws, q2, r2⟩ := w.heap _ _ e
    obtain ⟨ds, e, fin⟩ := fin _ f
    cases e
    exact op_cat pins s σ H _ _ v u Q I rx ry ⟨p, _, vs, ws, rfl, rfl, q1, q2, by rw [← r1.length, ← r2.length]; exact lz, fun q n => fin _ _ n (r1.append r2)⟩
  · unfold RepW at h1 h2
    unfold Rep at h1
    obtain ⟨p, vs, rfl, q1, r1⟩ := h2
    subst h1
    obtain ⟨zs, e, lz, f⟩ := oth_of f
    obtain ⟨ws, q2, r2⟩ := w.heap _ _ e
    obtain ⟨ds, e, fin⟩ := fin _ f
    cases e
    exact op_cat pins s σ H _ _ v u Q I rx ry ⟨_, p, ws, vs, rfl, rfl, q2, q1, by rw [← r1.length, ← r2.length]; exact lz, fun q n => fin _ _ n (r2.append r1)⟩
theorem own_new {K : PySem.W.Frag} {H : Hp} {hc : CH} {m : Ms} {p : Addr} {ds : List D} {vs : List V} (w : Wd K H hc m) (n : H p = none) (q : RepL K H m ds vs) :
    Ex K ⟨H, hc, m⟩ (upd H p (.lst vs)) hc (fun a => m a ∨ a = p) ∧ hc p = none ∧ RepL K (upd H p (.lst vs)) (fun a => m a ∨ a = p) ds vs := by
  have st : Stp H m (upd H p (.lst vs)) (fun a => m a ∨ a = p) := ⟨fun a o e _ _ => same_upd n a o e, fun a z => z.elim .inl fun e => .inr (by rw [e]; exact n), fun a o e => by rw [same_upd n a o e]; simp⟩
  refine ⟨⟨⟨tabs_put w.tab (.inl n), fun a z => ?_, fun a es e => .inl (w.hm a es e), fun a es e => ?_⟩, w.mu, w.hm, fun a o e _ _ => same_upd n a o e, st.grow, fun a z _ => .inl z, fun a es e => .inl (by show hc a ≠ none; rw [e]; simp), fun a o e => by rw [same_upd n a o e]; simp⟩, hc_none w n, RepL.mono w.mu st _ _ q⟩
  · rcases z with z | rfl
    · obtain ⟨ws, e⟩ := w.mu a z
      exact ⟨ws, same_upd n _ _ e⟩
    · exact ⟨vs, upd_same⟩
  · obtain ⟨ws, e1, q1⟩ := w.heap a es e
    exact ⟨ws, same_upd n _ _ e1, RepL.mono w.mu st _ _ q1⟩
theorem opF_lift {f : O2} {σ : L2.St} {H : Hp} {Q : VK} (h : LF X W (cOp f ca cb) σ H Q) : LB X W ca σ H fun x H1 => LB X W cb σ H1 fun y H2 => LV2F X.K f x y H2 Q := by
  obtain ⟨en, sc, hc, m, E, P, r, c, xo, fin⟩ := h
  refine ⟨en, sc, hc, m, E, _, r, c, xo, fun dx hc1 hp v H1 m1 x1 q1 => ⟨en, sc, hc1, m1, E, _, r.call x1, hp, xo, fun dy hc2 hp2 w H2 m2 x2 q2 => ⟨hc2, m2, dx, dy, _, x2.toWd, (q1.mono (r.call x1) x2.stp).w ((r.call x1).call x2), q2.w ((r.call x1).call x2), hp2, fun d pd => ?_⟩⟩⟩
  obtain ⟨ds, e, g⟩ := fin d hc2 pd
  refine ⟨ds, e, fun vs p n q => ?_⟩
  obtain ⟨y1, y2, y3⟩ := own_new x2.toWd n q
  have x12 := x1.trans x2
  exact g p vs _ _ (x12.trans y1) (.inr rfl) (by
    cases e3 : H p with
    | none => rfl
    | some o => exact absurd n (x12.live p o e3)) y2 upd_same y3
theorem cf_cat (ha : CB X W a ca) (hb : CB X W b cb) : CF X W (.BinOp a .Add b pos) (cOp catD ca cb) :=
  ⟨pe_wk (pe_op op_catF ha.p hb.p) fun σ H Q h => opF_lift h⟩
end
section
variable {X : Cx} {W : WX} {tg iter elt : Expr} {ifs : List Expr} {pos : Pos} {vs : List Nat} {ce : CEx} {ct : CTx}
theorem lc_liftF {ci : CIx} {g : CGx} {σ : L2.St} {H : Hp} {Q : VK} (h : LF X W (cLc ci g ct ce vs) σ H Q) : tLc (LI X W ci) (LGk X W0 vs g) (LT X W0 ct) (LE X W0 ce) vs σ H Q := by
  obtain ⟨en, sc, hc, m, E, P, r, k, xo, fin⟩ := h
  refine lc_gen r k xo fun acc hc' k' L H' m' ws xa mL hL' HL ra hH => ?_
  obtain ⟨ds, e, g⟩ := fin _ hc' k'
  cases e
  exact g L ws H' m' xa mL hH hL' HL ra
theorem cf_lc {ci : CIx} {g : CGx} {scope : Scope} {own : List (Str × Nat)} (hc : X.calm = true) (hN : X.N.Nodup) (hi : CI X W tg iter ci) (ok : BlkOk X.N X.env.scope scope own)
    (hg : ∀ (s : Shared) (H : Hp) (C : Addr) (cl : List (Str × Addr)) (fp : List Addr), CGk (X.blk s H scope (compEnvC scope cl C X.env) fp) W0 (own.map (·.2)) tg g)
    (ht : ∀ (s : Shared) (H : Hp) (C : Addr) (cl : List (Str × Addr)) (fp : List Addr), CTs (X.blk s H scope (compEnvC scope cl C X.env) fp) W0 ifs ct)
    (he : ∀ (s : Shared) (H : Hp) (C : Addr) (cl : List (Str × Addr)) (fp : List Addr), CE (X.blk s H scope (compEnvC scope cl C X.env) fp) W0 elt ce) (hs : ∀ x, foldedSetIterable iter X.env x = pure x := by intro _; rfl) :
    CF X W (.ListComp elt [⟨tg, iter, ifs, 0⟩] scope pos) (cLc ci g ct ce (own.map (·.2))) :=
  ⟨pe_wk (pe_lc (g := LGk X W0 (List.map (fun p : Str × Nat => p.2) own) g) (tt := LT X W0 ct) (te := LE X W0 ce) hc hN hi.p ok (fun s H C cl fp => (hg s H C cl fp).p) (fun s H C cl fp => (ht s H C cl fp).p) (fun s H C cl fp => (he s H C cl fp).p) hs) fun σ H Q h => lc_liftF h⟩
theorem cs_lcF {i : Nat} {y : Str} {py : Pos} {sp2 : Pos} {ci : CIx} {g : CGx} {scope : Scope} {own : List (Str × Nat)} (hc : X.calm = true) (hN : X.N.Nodup) (hi : CI X W tg iter ci) (ok : BlkOk X.N X.env.scope scope own)
    (hg : ∀ (s : Shared) (H : Hp) (C : Addr) (cl : List (Str × Addr)) (fp : List Addr), CGk (X.blk s H scope (compEnvC scope cl C X.env) fp) W0 (own.map (·.2)) tg g)
    (ht : ∀ (s : Shared) (H : Hp) (C : Addr) (cl : List (Str × Addr)) (fp : List Addr), CTs (X.blk s H scope (compEnvC scope cl C X.env) fp) W0 ifs ct)
    (he : ∀ (s : Shared) (H : Hp) (C : Addr) (cl : List (Str × Addr)) (fp : List Addr), CE (X.blk s H scope (compEnvC scope cl C X.env) fp) W0 elt ce) (hy : X.N[i]? = some y := by rfl) (hyl : X.env.scope.names.lookup y = some .local := by rfl)
    (hsw : swapsWith (.ListComp elt [⟨tg, iter, ifs, 0⟩] scope pos) (some (.Name y py)) sp2.line X.env = pure true := by exact sw_true rfl rfl rfl (by decide +kernel)) (hs : ∀ x, foldedSetIterable iter X.env x = pure x := by intro _; rfl) :
    CS X W (.Assign [.Name y py] (.ListComp elt [⟨tg, iter, ifs, 0⟩] scope pos) sp2) (cSetF i (cLc ci g ct ce (own.map (·.2)))) :=
  ⟨ps_wk (ps_setLc (i := i) (g := LGk X W0 (List.map (fun p : Str × Nat => p.2) own) g) (tt := LT X W0 ct) (te := LE X W0 ce) hc hN hy hyl hsw hi.p ok (fun s H C cl fp => (hg s H C cl fp).p) (fun s H C cl fp => (ht s H C cl fp).p) (fun s H C cl fp => (he s H C cl fp).p) hs) fun D σ H h => by
    obtain ⟨en, sc, hc', m, C, r, k, f⟩ := h
    exact lc_liftF ⟨en, sc, hc', m, C.xp, _, r, k, f.xp, fun d hc1 p => by
      cases d <;> try exact p.elim
      exact ⟨_, rfl, fun q vs H1 m1 x1 mp hp hn e q => f.nx _ hc1 p _ H1 m1 (r.newown i x1 mp hp hn e q) x1.stp⟩⟩⟩
end
theorem o_intB {b : Bool} {hc : CH} {P : D → Prop} : intFD [.bl b] hc P = P (.int (if b then 1 else 0)) := rfl
theorem o_catL {xs ys : List D} {hc : CH} {P : D → Prop} : catD (.lst xs) (.lst ys) hc P = (xs.length + ys.length ≤ sizeLine ∧ P (.lst (xs ++ ys))) := rfl
theorem e_SetF {i : Nat} {ce : CEx} {C : CEnds} {sc : List Sl} {hc : CH} : cSetF i ce C sc hc = ce C.xp sc hc fun d hc1 => match d with | .lst ds => C.nx (sc.set i (.own ds)) hc1 | _ => False := rfl
theorem at_3 {xs : List D} {P : D → Prop} {d e f g : D} : oth (atI (d :: e :: f :: g :: xs) 3) P = P g := by
  have h : atI (d :: e :: f :: g :: xs) 3 = some g := atI_nat' (j := 3) rfl rfl
  rw [h]
  exact propext ⟨fun z => let ⟨x, e, q⟩ := oth_of z; by cases e; exact q, fun z => oth_some rfl z⟩
theorem at_4 {xs : List D} {P : D → Prop} {d e f g i : D} : oth (atI (d :: e :: f :: g :: i :: xs) 4) P = P i := by
  have h : atI (d :: e :: f :: g :: i :: xs) 4 = some i := atI_nat' (j := 4) rfl rfl
  rw [h]
  exact propext ⟨fun z => let ⟨x, e, q⟩ := oth_of z; by cases e; exact q, fun z => oth_some rfl z⟩
/-! ### == of the same data, truths among them -/
def okB : Nat → D → Bool
  | _, .non => true
  | _, .bl _ => true
  | _, .int _ => true
  | _, .str s => PyData.canLay0 (.str s)
  | n + 1, .tup xs => xs.all (okB n)
  | n + 1, .lst xs => xs.all (okB n)
  | _, _ => false
def LayB (n : Nat) (d : D) : Prop := ∃ p, toPy d = some p ∧ p.canLay0 = true ∧ p.depth ≤ n
theorem layBL {n : Nat} (ih : ∀ d, okB n d = true → LayB n d) : ∀ ds : List D, ds.all (okB n) = true → ∃ ps, toPyL ds = some ps ∧ PyData.canLayAll0 ps = true ∧ PyData.depthAll ps ≤ n
  | [], _ => ⟨[], rfl, rfl, Nat.zero_le _⟩
  | d :: ds, h => by
    rw [List.all_cons, Bool.and_eq_true] at h
    obtain ⟨p, e1, c1, l1⟩ := ih d h.1
    obtain ⟨ps, e2, c2, l2⟩ := layBL ih ds h.2
    exact ⟨p :: ps, by unfold toPyL; rw [e1, e2], by simp [PyData.canLayAll0, c1, c2], by simp [PyData.depthAll]; omega⟩
theorem layB : ∀ (n : Nat) (d : D), okB n d = true → LayB n d
  | n, .non, _ => ⟨.none, by unfold toPy; rfl, rfl, by simp [PyData.depth]⟩
  | n, .bl b, _ => ⟨.bool b, by unfold toPy; rfl, rfl, by simp [PyData.depth]⟩
  | n, .int i, _ => ⟨.int i, by unfold toPy; rfl, rfl, by simp [PyData.depth]⟩
  | n, .str i, g => ⟨.str i, by unfold toPy; rfl, by cases n <;> exact g, by simp [PyData.depth]⟩
  | n + 1, .tup xs, g => by
    obtain ⟨ps, e1, c1, l1⟩ := layBL (layB n) xs g
    exact ⟨.tuple ps, by unfold toPy; rw [e1]; rfl, c1, by simp [PyData.depth]; omega⟩
  | n + 1, .lst xs, g => by
    obtain ⟨ps, e1, c1, l1⟩ := layBL (layB n) xs g
    exact ⟨.list ps, by unfold toPy; rw [e1]; rfl, c1, by simp [PyData.depth]; omega⟩
  | 0, .tup _, g => by simp [okB] at g
  | 0, .lst _, g => by simp [okB] at g
  | n, .ref _, g => by cases n <;> simp [okB] at g
  | n, .dct _ _, g => by cases n <;> simp [okB] at g
  | n, .frz _, g => by cases n <;> simp [okB] at g
  | n, .clo _ _ _, g => by cases n <;> simp [okB] at g
  | n, .exn _ _ _ _, g => by cases n <;> simp [okB] at g
  | n, .fn _, g => by cases n <;> simp [okB] at g
theorem eqGB_same {neg : Bool} {x : D} {P : D → Prop} (n : Nat) (hx : okB n x = true) (k : P (.bl (!neg))) (hn : n ≤ 64) : eqG neg x x P := by
  obtain ⟨p, e, c, l⟩ := layB n x hx
  have sh : SeqAt.shaped p = true := by
    unfold SeqAt.shaped
    rw [c, decide_eq_true (by omega)]; rfl
  refine ⟨p, p, e, e, sh, sh, ?_⟩
  rw [SeqAt.eqv_refl p c]
  cases neg <;> exact k
theorem eqB_same {x : D} {hc : CH} {P : D → Prop} (n : Nat) (hx : okB n x = true) (k : P (.bl true)) (hn : n ≤ 64 := by decide) : eqD x x hc P := by
  unfold eqD
  split
  · rw [decide_eq_true rfl]; exact k
  · rw [decide_eq_true rfl]; exact k
  · exact k
  · exact eqGB_same n hx k hn
theorem neB_same {x : D} {hc : CH} {P : D → Prop} (n : Nat) (hx : okB n x = true) (k : P (.bl false)) (hn : n ≤ 64 := by decide) : neD x x hc P := by
  unfold neD
  split
  · rw [decide_eq_true rfl]; exact k
  · rw [decide_eq_true rfl]; exact k
  · exact k
  · exact eqGB_same n hx k hn
theorem eqD_bb {a b : Bool} {hc : CH} {P : D → Prop} (k : P (.bl (a == b))) : eqD (.bl a) (.bl b) hc P := by
  refine ⟨.bool a, .bool b, rfl, rfl, rfl, rfl, ?_⟩
  have e : PyData.eqv (.bool a) (.bool b) = (a == b) := by cases a <;> cases b <;> rfl
  rw [e]; exact k
theorem neD_bb {a b : Bool} {hc : CH} {P : D → Prop} (k : P (.bl (a != b))) : neD (.bl a) (.bl b) hc P := by
  refine ⟨.bool a, .bool b, rfl, rfl, rfl, rfl, ?_⟩
  have e : PyData.eqv (.bool a) (.bool b) = (a == b) := by cases a <;> cases b <;> rfl
  rw [e]; exact k
/-! ### is of bools -/
def isBD : O2 := fun x y _ P => match x, y with | .bl a, .bl b => P (.bl (decide (a = b))) | _, _ => False
def notBD : O2 := fun x y _ P => match x, y with | .bl a, .bl b => P (.bl (!decide (a = b))) | _, _ => False
theorem op_isBD {X : Cx} : OpR X (compareOp .Is) (LV2 X.K isBD) := by
  intro pins s σ H x y v u Q I rx ry h
  obtain ⟨hc, m, dx, dy, P, w, h1, h2, f, fin⟩ := h
  cases dx <;> cases dy <;> try exact f.elim
  unfold RepW Rep at h1 h2
  subst h1; subst h2
  exact op_isBl pins s σ H _ _ v u Q I rx ry ⟨_, _, rfl, rfl, fin _ f _ _ (.refl H) rep_bl⟩
theorem op_notBD {X : Cx} : OpR X (compareOp .IsNot) (LV2 X.K notBD) := by
  intro pins s σ H x y v u Q I rx ry h
  obtain ⟨hc, m, dx, dy, P, w, h1, h2, f, fin⟩ := h
  cases dx <;> cases dy <;> try exact f.elim
  unfold RepW Rep at h1 h2
  subst h1; subst h2
  exact op_notBl pins s σ H _ _ v u Q I rx ry ⟨_, _, rfl, rfl, fin _ f _ _ (.refl H) rep_bl⟩
theorem o_isB {a b : Bool} {hc : CH} {P : D → Prop} : isBD (.bl a) (.bl b) hc P = P (.bl (decide (a = b))) := rfl
theorem o_notB {a b : Bool} {hc : CH} {P : D → Prop} : notBD (.bl a) (.bl b) hc P = P (.bl (!decide (a = b))) := rfl
/-! ### values of any kind -/
def isW : D → Bool | .int _ => true | _ => false
def NoRef : D → Prop | .ref _ => False | .clo _ _ _ => False | .exn _ _ _ _ => False | .fn _ => False | _ => True
def betw (d : D) (lo hi : Int) : Bool := match d with | .int i => decide (lo ≤ i) && decide (i ≤ hi) | _ => false
theorem betw_ok {i lo hi : Int} (h0 : lo ≤ i) (h1 : i ≤ hi) : betw (.int i) lo hi = true := by
  show (decide (lo ≤ i) && decide (i ≤ hi)) = true
  rw [decide_eq_true h0, decide_eq_true h1]; rfl
theorem isi_nr {n : String} {d : D} {hc : CH} {P : D → Prop} (h : NoRef d) (k : P (.bl (isTy n d))) : isiD n d hc P := ⟨by cases d <;> first | trivial | exact h.elim, k⟩
section
variable {hc : CH} {P : D → Prop} {n : String} {i : Int} {b : Bool} {s : Str} {xs : List D} {ks : List Key}
theorem o_isi1 : isiD n .non hc P = P (.bl (isTy n .non)) := propext ⟨fun h => h.2, fun h => ⟨trivial, h⟩⟩
theorem o_isi2 : isiD n (.bl b) hc P = P (.bl (isTy n (.bl b))) := propext ⟨fun h => h.2, fun h => ⟨trivial, h⟩⟩
theorem o_isi3 : isiD n (.int i) hc P = P (.bl (isTy n (.int i))) := propext ⟨fun h => h.2, fun h => ⟨trivial, h⟩⟩
theorem o_isi4 : isiD n (.str s) hc P = P (.bl (isTy n (.str s))) := propext ⟨fun h => h.2, fun h => ⟨trivial, h⟩⟩
theorem o_isi5 : isiD n (.tup xs) hc P = P (.bl (isTy n (.tup xs))) := propext ⟨fun h => h.2, fun h => ⟨trivial, h⟩⟩
theorem o_isi6 : isiD n (.lst xs) hc P = P (.bl (isTy n (.lst xs))) := propext ⟨fun h => h.2, fun h => ⟨trivial, h⟩⟩
theorem o_isi7 : isiD n (.dct ks xs) hc P = P (.bl (isTy n (.dct ks xs))) := propext ⟨fun h => h.2, fun h => ⟨trivial, h⟩⟩
theorem o_isi8 : isiD n (.frz xs) hc P = P (.bl (isTy n (.frz xs))) := propext ⟨fun h => h.2, fun h => ⟨trivial, h⟩⟩
theorem ty_int_N : isTy "int" .non = false := by show tyB "NoneType" "int" = _; decide
theorem ty_int_B : isTy "int" (.bl b) = true := by show tyB "bool" "int" = _; decide
theorem ty_int_I : isTy "int" (.int i) = true := by show tyB "int" "int" = _; decide
theorem ty_int_S : isTy "int" (.str s) = false := by show tyB "str" "int" = _; decide
theorem ty_int_T : isTy "int" (.tup xs) = false := by show tyB "tuple" "int" = _; decide
theorem ty_int_L : isTy "int" (.lst xs) = false := by show tyB "list" "int" = _; decide
theorem ty_int_D : isTy "int" (.dct ks xs) = false := by show tyB "dict" "int" = _; decide
theorem ty_bool_N : isTy "bool" .non = false := by show tyB "NoneType" "bool" = _; decide
theorem ty_bool_B : isTy "bool" (.bl b) = true := by show tyB "bool" "bool" = _; decide
theorem ty_bool_I : isTy "bool" (.int i) = false := by show tyB "int" "bool" = _; decide
theorem ty_bool_S : isTy "bool" (.str s) = false := by show tyB "str" "bool" = _; decide
theorem ty_bool_T : isTy "bool" (.tup xs) = false := by show tyB "tuple" "bool" = _; decide
theorem ty_bool_L : isTy "bool" (.lst xs) = false := by show tyB "list" "bool" = _; decide
theorem ty_bool_D : isTy "bool" (.dct ks xs) = false := by show tyB "dict" "bool" = _; decide
theorem ty_str_N : isTy "str" .non = false := by show tyB "NoneType" "str" = _; decide
theorem ty_str_B : isTy "str" (.bl b) = false := by show tyB "bool" "str" = _; decide
theorem ty_str_I : isTy "str" (.int i) = false := by show tyB "int" "str" = _; decide
theorem ty_str_S : isTy "str" (.str s) = true := by show tyB "str" "str" = _; decide
theorem ty_str_T : isTy "str" (.tup xs) = false := by show tyB "tuple" "str" = _; decide
theorem ty_str_L : isTy "str" (.lst xs) = false := by show tyB "list" "str" = _; decide
theorem ty_str_D : isTy "str" (.dct ks xs) = false := by show tyB "dict" "str" = _; decide
theorem ty_tuple_N : isTy "tuple" .non = false := by show tyB "NoneType" "tuple" = _; decide
theorem ty_tuple_B : isTy "tuple" (.bl b) = false := by show tyB "bool" "tuple" = _; decide
theorem ty_tuple_I : isTy "tuple" (.int i) = false := by show tyB "int" "tuple" = _; decide
theorem ty_tuple_S : isTy "tuple" (.str s) = false := by show tyB "str" "tuple" = _; decide
theorem ty_tuple_T : isTy "tuple" (.tup xs) = true := by show tyB "tuple" "tuple" = _; decide
theorem ty_tuple_L : isTy "tuple" (.lst xs) = false := by show tyB "list" "tuple" = _; decide
theorem ty_tuple_D : isTy "tuple" (.dct ks xs) = false := by show tyB "dict" "tuple" = _; decide
theorem ty_list_N : isTy "list" .non = false := by show tyB "NoneType" "list" = _; decide
theorem ty_list_B : isTy "list" (.bl b) = false := by show tyB "bool" "list" = _; decide
theorem ty_list_I : isTy "list" (.int i) = false := by show tyB "int" "list" = _; decide
theorem ty_list_S : isTy "list" (.str s) = false := by show tyB "str" "list" = _; decide
theorem ty_list_T : isTy "list" (.tup xs) = false := by show tyB "tuple" "list" = _; decide
theorem ty_list_L : isTy "list" (.lst xs) = true := by show tyB "list" "list" = _; decide
theorem ty_list_D : isTy "list" (.dct ks xs) = false := by show tyB "dict" "list" = _; decide
theorem ty_dict_N : isTy "dict" .non = false := by show tyB "NoneType" "dict" = _; decide
theorem ty_dict_B : isTy "dict" (.bl b) = false := by show tyB "bool" "dict" = _; decide
theorem ty_dict_I : isTy "dict" (.int i) = false := by show tyB "int" "dict" = _; decide
theorem ty_dict_S : isTy "dict" (.str s) = false := by show tyB "str" "dict" = _; decide
theorem ty_dict_T : isTy "dict" (.tup xs) = false := by show tyB "tuple" "dict" = _; decide
theorem ty_dict_L : isTy "dict" (.lst xs) = false := by show tyB "list" "dict" = _; decide
theorem ty_dict_D : isTy "dict" (.dct ks xs) = true := by show tyB "dict" "dict" = _; decide
end
end Mn

namespace Mn
open PySem PySem.Spec PyProof.Rows L2
/-! ### dicts of constants -/
section
variable {X : Cx} {W : WX} {pos : Pos}
theorem rep_dct {K : PySem.W.Frag} {H : Hp} {m : Ms} {p : Addr} {kvs : List (Key × V)} {ds : List D} (w : MutOk H m) (n : H p = none) (r : RepL K H m ds (kvs.map Prod.snd)) : Rep K (upd H p (.dK kvs)) m (.dct (kvs.map Prod.fst) ds) (.ref p) := by
  unfold Rep
  have e : (kvs.map Prod.fst).zip (kvs.map Prod.snd) = kvs := by
    clear r
    induction kvs with
    | nil => rfl
    | cons a l ih => rw [List.map_cons, List.map_cons, List.zip_cons_cons, ih]
  refine ⟨p, kvs.map Prod.snd, rfl, fun z => ?_, by rw [e]; exact upd_same, by rw [List.length_map, List.length_map], RepL.mono w (.same (same_upd n)) _ _ r⟩
  obtain ⟨vs, e⟩ := w p z
  rw [n] at e; cases e
theorem ce_dct0 : CE X W (.Dict [] [] pos) (cC (.dct [] [])) :=
  ⟨pe_wk pe_dnewK fun σ H Q ⟨en, sc, hc, m, E, P, r, k, xo, fin⟩ p n => fin _ hc k _ _ m (Ex.same r.toWd (same_upd n)) (rep_dct (kvs := []) r.mu n RepL.nil)⟩
theorem tPairs_c {σ : L2.St} : ∀ (kvs : List (Key × V)) (H : Hp) (Q : List (V × V) → Hp → Prop), Q (kvs.map fun kv => (kV kv.1, kv.2)) H → tPairs (kvs.map fun kv => (tC (kV kv.1), tC kv.2)) σ H Q
  | [], H, Q, h => h
  | kv :: r, H, Q, h => tPairs_c r H (fun ps H3 => Q ((kV kv.1, kv.2) :: ps) H3) h
theorem upd_upd {H : Hp} {p : Addr} {a b : HO} : upd (upd H p a) p b = upd H p b := by
  funext q
  unfold upd
  split <;> rfl
theorem ce_dct {keys : List (Option Expr)} {values : List Expr} {ds : List D} (kvs : List (Key × V)) (h : PPs X pos keys values (kvs.map fun kv => (tC (kV kv.1), tC kv.2))) (hr : ∀ H m, RepL X.K H m ds (kvs.map Prod.snd)) (hm : mergeK [] kvs = kvs := by rfl) (hall : keys.all (·.isSome) = true := by rfl) (hl : keys.length = values.length := by rfl) (h0 : keys ≠ [] := by exact List.cons_ne_nil _ _)
    (h15 : keys.length ≤ 15 := by exact Nat.le_of_ble_eq_true rfl) (hk : kvs.length ≤ 15 := by exact Nat.le_of_ble_eq_true rfl) : CE X W (.Dict keys values pos) (cC (.dct (kvs.map Prod.fst) ds)) :=
  ⟨pe_wk (pe_disp h hall hl h0 h15) fun σ H Q ⟨en, sc, hc, m, E, P, r, k, xo, fin⟩ p n => tPairs_c kvs _ _ ⟨upd_same, kvs, rfl, hk, by
    rw [upd_upd, hm]
    exact fin _ hc k _ _ m (Ex.same r.toWd (same_upd n)) (rep_dct r.mu n (hr H m))⟩⟩
end
/-! ### str(..) -/
def strD : On := fun ds _ P => match ds with
  | [.int i] => i.natAbs < 2 ^ 12900 ∧ P (.str (toString i))
  | [.str s] => P (.str s)
  | _ => False
theorem strOf_big {prog : Program} {w : World} {A : Around} {E : Value → Shared → Prop} {s : Shared} {a : Int} {t : Tok} {Q : Value → Shared → Prop} (S : Stat s.heap) (h : IntTxt a = true) (q : Q (.str (toString a) s.toks) { s with toks := s.toks + 1 }) : wpAny (model prog w) A (Builtin.Str.strOf (.int a t)) Q E s := by
  unfold Builtin.Str.strOf
  rw [show Builtin.Str.isExactStr (.int a t) = false from rfl]
  try (have hv : [Value.int a t].any Value.onHeap = false := rfl; simp only [cRoomFor, hv, Bool.false_eq_true, if_false, pure_bind])
  refine wpAny_bind (m := callSpecial? (.int a t) (Str.ofString "__str__")) (wpAny_callSpecial?_slot (name := Str.ofString "__str__") (typeIs_int s a t) F.slot_int_str ?_)
  refine wpAny_call_entry F.slot_int_str (typeIs_int s a t) entry_object_str ?_ (args_object_str _)
  unfold Builtin.«object.__str__»
  refine wpAny_bind (m := slotArgs "__str__" 0 _) (wpAny_pure ?_)
  try (have hv : [Value.int a t].any Value.onHeap = false := rfl; simp only [cRoomFor, hv, Bool.false_eq_true, if_false, pure_bind])
  refine wpAny_bind (m := callSpecialIfBound? (.int a t) (Str.ofString "__repr__")) (wpAny_callSpecialIfBound?_slot (name := Str.ofString "__repr__") (typeIs_int s a t) F.slot_int_repr (call_intrepr S h ?_))
  exact wpAny_pure ⟨_, rfl, wpAny_pure q⟩
theorem str_of_big {prog : Program} {w : World} {A : Around} {E : Value → Shared → Prop} {s : Shared} {a : Int} {t : Tok} {Q : Value → Shared → Prop} (S : Stat s.heap) (h : IntTxt a = true) (q : Q (.str (toString a) s.toks) { s with toks := s.toks + 1 }) : wpAny (model prog w) A (call (.type "str") [.int a t]) Q E s :=
  callType_new F.called_str (by decide) (F.typeCall_str_1 _) (F.newCall_str_1 _) (fun obj => F.args_object_init_2 obj _) F.entry_str_new
    (meets_str_new (S := fun _ R s => Stat s.heap ∧ R (.ok (.ret (.str (toString a) s.toks))) { s with toks := s.toks + 1 }) fun _ _ _ _ _ hq => strOf_big hq.1 h hq.2) ⟨S, typeIs_str _ _ _, q⟩
theorem bt_str {X : Cx} (st : statK X.K = true) : CallR X (.type "str") (LVn X.K strD) := by
  intro pins s σ H xs us Q I r h
  obtain ⟨hc', m, ds, P, w, h1, f, fin⟩ := h
  unfold strD at f
  split at f
  · obtain ⟨x, rfl, k1⟩ := wl1 h1
    unfold RepW Rep at k1
    subst k1
    obtain ⟨u, rfl, ru⟩ := vals1 r
    obtain ⟨t, rfl⟩ := ru
    exact str_of_big (stat_of I.kIn I.nolimit st) (decide_eq_true f.1) ⟨.str _, H, I.tok _, ⟨_, rfl⟩, fin _ f.2 _ _ (.refl H) rep_str⟩
  · obtain ⟨x, rfl, k1⟩ := wl1 h1
    unfold RepW Rep at k1
    subst k1
    obtain ⟨u, rfl, ru⟩ := vals1 r
    obtain ⟨t, rfl⟩ := ru
    exact PySem.P.str_of_str ⟨.str _, H, I, ⟨_, rfl⟩, fin _ f _ _ (.refl H) rep_str⟩
  · exact f.elim
theorem o_str {i : Int} {hc : CH} {P : D → Prop} : strD [.int i] hc P = (i.natAbs < 2 ^ 12900 ∧ P (.str (toString i))) := rfl
theorem o_strS {s : Str} {hc : CH} {P : D → Prop} : strD [.str s] hc P = P (.str s) := rfl
/-! ### shapes of values -/
theorem cutX_len {α : Type} (xs : List α) (lo hi : Option Int) : (cutX xs lo hi).length ≤ xs.length := by
  unfold cutX
  rw [List.length_take, List.length_drop]
  omega
theorem cutX_mem {α : Type} {xs : List α} {lo hi : Option Int} {x : α} (h : x ∈ cutX xs lo hi) : x ∈ xs := List.mem_of_mem_drop (List.mem_of_mem_take h)
def shB (n c : Nat) (d : D) : Bool := match toPr d with
  | some p => bigP p && (decide (p.depth ≤ n) && decide (p.shown.length ≤ c))
  | none => false
theorem Sh.lit {n c : Nat} {d : D} (h : shB n c d = true) : Sh n c d := by
  unfold shB at h
  cases e : toPr d with
  | none => rw [e] at h; cases h
  | some p =>
    rw [e] at h
    have h : (bigP p && (decide (p.depth ≤ n) && decide (p.shown.length ≤ c))) = true := h
    rw [Bool.and_eq_true, Bool.and_eq_true, decide_eq_true_iff, decide_eq_true_iff] at h
    exact ⟨p, e, h.1, h.2.1, h.2.2⟩
theorem toPrL_mem : ∀ {ds : List D} {ps : List PyData} {d : D}, toPrL ds = some ps → d ∈ ds → ∃ p, toPr d = some p
  | [], _, _, _, h => nomatch h
  | x :: ds, ps, d, e, h => by
    unfold toPrL at e
    split at e
    · rename_i p qs e1 e2
      rcases List.mem_cons.mp h with rfl | h
      · exact ⟨p, e1⟩
      · exact toPrL_mem e2 h
    · cases e
theorem nr_of {d : D} {p : PyData} (h : toPr d = some p) : NoRef d := by
  cases d <;> first | trivial | (unfold toPr at h; cases h)
theorem Sh.nr {n c : Nat} {d : D} (h : Sh n c d) : NoRef d := nr_of h.choose_spec.1
theorem Sh.nrT {n c : Nat} {xs : List D} (h : Sh n c (.tup xs)) : ∀ x ∈ xs, NoRef x := fun x hx => by
  obtain ⟨p, e, _⟩ := h
  unfold toPr at e
  cases e2 : toPrL xs with
  | none => rw [e2] at e; cases e
  | some ps =>
    obtain ⟨q, e3⟩ := toPrL_mem e2 hx
    exact nr_of e3
theorem sh_tupK {n c k : Nat} {xs : List D} (hl : xs.length ≤ k) (h : ∀ d ∈ xs, Sh n c d) : Sh (n + 1) (k * (c + 2) + 3) (.tup xs) := (sh_tup h).up (Nat.le_refl _) (by
  have := Nat.mul_le_mul_right (c + 2) hl
  omega)
theorem sh_lstK {n c k : Nat} {xs : List D} (hl : xs.length ≤ k) (h : ∀ d ∈ xs, Sh n c d) : Sh (n + 1) (k * (c + 2) + 2) (.lst xs) := (sh_lst h).up (Nat.le_refl _) (by
  have := Nat.mul_le_mul_right (c + 2) hl
  omega)
section
variable {hc : CH} {P : D → Prop} {xs : List D} {s : Str} {b : Bool} {ks : List Key}
theorem o_isN5 : isND (.str s) .non hc P = P (.bl false) := rfl
theorem o_isN6 : isND (.bl b) .non hc P = P (.bl false) := rfl
theorem o_isN7 : isND (.dct ks xs) .non hc P = P (.bl false) := rfl
theorem o_notN5 : notND (.str s) .non hc P = P (.bl true) := rfl
theorem o_notN6 : notND (.bl b) .non hc P = P (.bl true) := rfl
theorem o_notN7 : notND (.dct ks xs) .non hc P = P (.bl true) := rfl
theorem o_lenS : lenD [.str s] hc P = (s.length ≤ sizeLine ∧ P (.int s.length)) := rfl
end
/-! ### e[::-1], e a list or a tuple -/
section
variable {prog : Program} {w : World} {A : Around} {E : Value → Shared → Prop} {s : Shared}
theorem adj_back (n : Nat) : Builtin.Slice.sliceAdjust none none (-1) (n : Int) = ((n : Int) - 1, -1) := by
  unfold Builtin.Slice.sliceAdjust
  simp
theorem places_back (n : Nat) : Builtin.Slice.slicePlaces ((n : Int) - 1) (-1) (-1) = n := by
  unfold Builtin.Slice.slicePlaces
  rcases Nat.eq_zero_or_pos n with rfl | h
  · rfl
  · simp
    split <;> omega
theorem applied_back {sl : Addr} {one : Value} {n : Nat} {Q : Int × Int × Nat → Shared → Prop} (hsl : s.heap.IsSliceOf sl .none .none one) (p1 : IsPart one (some (-1))) (k : Q ((n : Int) - 1, -1, n) s) : wpAny (model prog w) A (Builtin.Slice.sliceApplied (.ref sl) (pure (n : Int))) Q E s := by
  obtain ⟨ob, g1, _, g2⟩ := hsl
  unfold Builtin.Slice.sliceApplied; unfold Builtin.Slice.sliceFields
  refine wpAny_bind (wpAny_bind (wpAny_field g1 g2 (x := .none) rfl (wpAny_bind (wpAny_field g1 g2 (x := .none) rfl (wpAny_bind (wpAny_field g1 g2 (x := one) rfl (wpAny_pure ?_)))))))
  refine wpAny_bind (HT.slicePart_ p1 ?_)
  show wpAny _ _ (if ((-1 : Int) == 0) = true then _ else _) Q _ s
  rw [if_neg (show ¬ ((-1 : Int) == 0) = true by decide)]
  refine wpAny_bind (PyProof.Rows.slicePart_none (wpAny_bind (PyProof.Rows.slicePart_none (wpAny_bind (wpAny_pure ?_)))))
  show wpAny _ _ (match Builtin.Slice.sliceAdjust none none (-1) (n : Int) with | (a, b) => pure (a, (-1 : Int), Builtin.Slice.slicePlaces a b (-1))) Q _ s
  rw [adj_back]
  show wpAny _ _ (pure ((n : Int) - 1, (-1 : Int), Builtin.Slice.slicePlaces ((n : Int) - 1) (-1) (-1))) Q _ s
  rw [places_back]
  exact wpAny_pure k
theorem pick_back (xs : List Value) : ((List.range xs.length).filterMap fun (j : Nat) => xs.toArray[((xs.length : Int) - 1 + (j : Int) * -1).toNat]?) = xs.reverse := by
  have e : ∀ j ∈ List.range xs.length, xs.toArray[((xs.length : Int) - 1 + (j : Int) * -1).toNat]? = xs.reverse[j]? := fun j hj => by
    have hj := List.mem_range.mp hj
    rw [List.getElem?_reverse hj, show ((xs.length : Int) - 1 + (j : Int) * -1).toNat = xs.length - 1 - j by omega]
    simp
  have all : ∀ ys : List Value, (List.range ys.length).filterMap (fun j => ys[j]?) = ys := fun ys => by
    induction ys with
    | nil => rfl
    | cons a l ih => rw [List.length_cons, List.range_succ_eq_map, List.filterMap_cons]; simp only [List.getElem?_cons_zero, List.filterMap_map]; exact congrArg (a :: ·) ih
  have go : ∀ l : List Nat, (∀ j ∈ l, xs.toArray[((xs.length : Int) - 1 + (j : Int) * -1).toNat]? = xs.reverse[j]?) → (l.filterMap fun (j : Nat) => xs.toArray[((xs.length : Int) - 1 + (j : Int) * -1).toNat]?) = l.filterMap fun j => xs.reverse[j]? := fun l => by
    induction l with
    | nil => intro _; rfl
    | cons a l ih =>
      intro h
      rw [List.filterMap_cons, List.filterMap_cons, h a (List.mem_cons_self ..), ih fun j hj => h j (List.mem_cons_of_mem _ hj)]
  rw [go _ e]
  have := all xs.reverse
  rw [List.length_reverse] at this
  exact this
theorem tuple_back {t sl : Addr} {its : List Value} {one : Value} {Q : Value → Shared → Prop} (ht : IsTup s.heap t its.toArray) (hsl : s.heap.IsSliceOf sl .none .none one) (p1 : IsPart one (some (-1))) (hz : its.length ≤ sizeLine)
    (k : Q (.ref s.heap.objs.size) { s with heap := s.heap.push { cls := .type "tuple", data := .seq its.reverse.toArray } }) : wpAny (model prog w) A (getItem (.ref t) (.ref sl)) Q E s := by
  have fits : sizeOk (.seq its.reverse.toArray) := by
    show its.reverse.toArray.size ≤ sizeLine
    rw [List.size_toArray, List.length_reverse]; exact hz
  obtain ⟨ob, g1, g2, g3⟩ := id hsl
  have isl : s.TypeIs (.ref sl) "slice" := ⟨ob, g1, g2⟩
  have itp := ht.typeIs
  unfold getItem
  try with_reducible refine wpAny_holding ?_
  first | refine wpAny_bind (wpAny_pure ?_) | skip
  refine wpAny_bind (wpAny_sequenceKey itp (by decide) ?_)
  refine wpAny_bind (wpAny_callSpecial?_slot (name := Str.ofString "__getitem__") itp PyProof.Rows.slot_tuple_getitem (wpAny_call_entry PyProof.Rows.slot_tuple_getitem itp PyProof.Rows.entry_tuple_getitem ?_ (PyProof.Rows.args_tuple_getitem _ _)))
  show wpAny _ _ (Builtin.Tuple.tupleItemsOf (.ref t) >>= _) _ _ s
  refine wpAny_bind (PyProof.Rows.tupleItemsOf_ ht (wpAny_bind (wpAny_typeOf isl ?_)))
  rw [if_pos (show (Value.type "slice" == .type "slice") = true by decide)]
  have sz : its.toArray.size = its.length := List.size_toArray ..
  rw [sz]
  refine wpAny_bind (applied_back hsl p1 ?_)
  have not1 : ¬ ((((its.length : Int) - 1) == 0 && (-1 : Int) == 1 && its.length == its.toArray.size) = true) := by
    rw [show ((-1 : Int) == 1) = false by decide, Bool.and_false, Bool.false_and]; exact Bool.false_ne_true
  show wpAny _ _ (if ((((its.length : Int) - 1) == 0 && (-1 : Int) == 1 && its.length == its.toArray.size) = true) then _ else _) _ _ s
  rw [if_neg not1]
  rw [pick_back its]
  first
    | exact wpAny_bind (m := Builtin.Tuple.tupleExact _) (wpAny_newObj_type (wpAny_pure ⟨_, rfl, wpAny_pure k⟩) fits)
    | exact wpAny_bind (m := Builtin.Tuple.tupleExact _) (wpAny_newObj_type (wpAny_bind (wpAny_pure (wpAny_pure ⟨_, rfl, wpAny_pure k⟩))) fits)
    | exact wpAny_bind (wpAny_bind (m := Builtin.Tuple.tupleExact _) (wpAny_newObj_type (wpAny_pure (wpAny_pure ⟨_, rfl, wpAny_pure k⟩)) fits))
    | exact wpAny_bind (wpAny_bind (m := Builtin.Tuple.tupleExact _) (wpAny_newObj_type (wpAny_pure ⟨_, rfl, wpAny_pure k⟩) fits))
end
def tRevB (K : PySem.W.Frag) (te : TE) : TE := fun σ H Q => te σ H fun x H1 => ∃ a, x = .ref a ∧ ((∃ xs, SqL K H1 a xs ∧ ∀ p, H1 p = none → Q (.ref p) (upd H1 p (.lst xs.reverse))) ∨ ∃ xs, SqT K H1 a xs ∧ ∀ p, H1 p = none → Q (.ref p) (upd H1 p (.tup xs.reverse)))
theorem pe_revB {X : Cx} {e : Expr} {te : TE} {k : Nat} {p1 p2 p3 pos : Pos} (he : PE X e te) : PE X (.Subscript e (.Slice none none (some (.UnaryOp .USub (.Constant (.int 1) k p1) p2)) p3) pos) (tRevB X.K te) := by
  refine ⟨fun pins s σ H Q I h => Subscript_ (thn (he.run pins s σ H _ I h) fun v s1 ⟨x, H1, I1, r1, a, ex, q⟩ => ?_)⟩
  subst ex
  cases r1
  have hst : PO X (some (.UnaryOp .USub (.Constant (.int 1) k p1) p2)) (tPart (tUn (rU fun i => .int (-i)) (tC (.int 1)))) := po_some (pe_un un_neg pe_int)
  refine wpAny_Slice (thn (L2.po_none.run pins s1 σ H1 (fun o Ha => o = none ∧ Ha = H1) I1 ⟨rfl, rfl⟩) fun vl s2 ⟨l, Ha, Ia, pl, el, ea⟩ => ?_)
  subst el ea
  refine thn (L2.po_none.run pins s2 σ Ha (fun o Hb => o = none ∧ Hb = Ha) Ia ⟨rfl, rfl⟩) fun vu s3 ⟨u, Hb, Ib, pu, eu, eb⟩ => ?_
  subst eu eb
  refine thn (hst.run pins s3 σ Hb (fun o Hc => o = some (-1) ∧ Hc = Hb) Ib ⟨1, rfl, -1, rfl, rfl, rfl⟩) fun vs s4 ⟨o, Hc, Ic, ps, eo, ec⟩ => ?_
  subst eo ec
  have Id : Inv X pins σ Hc { s4 with heap := s4.heap.push { cls := .type "slice", data := .fields #[vl, vu, vs] } } := Ic.kept (t' := s4.toks) fun b ob z => Heap.get?_push_of_some _ z
  cases pl
  cases pu
  rcases q with ⟨xs, hx, q⟩ | ⟨xs, hx, q⟩
  · obtain ⟨its, r, ht, hz⟩ := Id.list hx
    show wpAny (model X.prog X.w) X.A (subscriptTail e (.Slice none none (some (.UnaryOp .USub (.Constant (.int 1) k p1) p2)) p3) (.ref a) (.ref s4.heap.objs.size)) (EP X pins σ Q) X.xe { s4 with heap := s4.heap.push { cls := .type "slice", data := .fields #[.none, .none, vs] } }
    refine tail_any (ops := [.ref a, .ref s4.heap.objs.size]) ht.isList.typeIs PySem.slot_list_getitem.lookup ?_ (by with_unfolding_all rfl)
    refine wpAny_getItem_list_slice ht.isList (Heap.IsSliceOf.new _ .none .none vs) .none .none ps (by decide) ?_ (by rw [List.size_toArray, ← r.length]; exact hz)
    rw [PySem.W.krv_pick]
    exact ⟨.ref _, _, Id.laid (t' := s4.toks) (o := .lst xs.reverse) (fun b ob z => Heap.get?_push_of_some _ z) (Nat.le_refl _) ⟨by rw [List.length_reverse]; exact hz, _, 0, r.reverse, Heap.get?_push_size _ rfl⟩, rfl, q _ (Id.hok.fresh (Nat.le_refl _))⟩
  · obtain ⟨its, r, ht, hz⟩ := Id.tuple hx
    show wpAny (model X.prog X.w) X.A (subscriptTail e (.Slice none none (some (.UnaryOp .USub (.Constant (.int 1) k p1) p2)) p3) (.ref a) (.ref s4.heap.objs.size)) (EP X pins σ Q) X.xe { s4 with heap := s4.heap.push { cls := .type "slice", data := .fields #[.none, .none, vs] } }
    refine tail_any (ops := [.ref a, .ref s4.heap.objs.size]) ht.typeIs PyProof.Rows.slot_tuple_getitem.lookup ?_ (by with_unfolding_all rfl)
    refine tuple_back ht (Heap.IsSliceOf.new _ .none .none vs) ps (by rw [← r.length]; exact hz) ?_
    exact ⟨.ref _, _, Id.laid (t' := s4.toks) (o := .tup xs.reverse) (fun b ob z => Heap.get?_push_of_some _ z) (Nat.le_refl _) ⟨by rw [List.length_reverse]; exact hz, _, r.reverse, IsTup.new _ _⟩, rfl, q _ (Id.hok.fresh (Nat.le_refl _))⟩
def revB : O1
  | .lst xs, _, P => P (.lst xs.reverse)
  | .tup xs, _, P => P (.tup xs.reverse)
  | _, _, _ => False
theorem ce_revB {X : Cx} {W : WX} {e : Expr} {ce : CEx} {pos : Pos} {k : Nat} {p1 p2 p3 : Pos} (h : CB X W e ce) : CE X W (.Subscript e (.Slice none none (some (.UnaryOp .USub (.Constant (.int 1) k p1) p2)) p3) pos) (cUn revB ce) :=
  ⟨pe_wk (pe_revB h.p) fun σ H Q ⟨en, sc, hc, m, E, P, r, k, xo, fin⟩ =>
    ⟨en, sc, hc, m, E, _, r, k, xo, fun d hc1 p v H1 m1 x1 q => by
      have q := q.w (r.call x1)
      cases d <;> try exact p.elim
      · unfold RepW Rep at q
        obtain ⟨a, vs, rfl, q1, rl⟩ := q
        exact ⟨a, rfl, .inr ⟨vs, q1, fun l n => fin _ hc1 p _ _ _ (x1.trans (.same x1.toWd (same_upd n))) (rep_tup x1.mu n rl.rev)⟩⟩
      · unfold RepW at q
        obtain ⟨a, vs, rfl, q1, rl⟩ := q
        exact ⟨a, rfl, .inl ⟨vs, .of q1, fun l n => fin _ hc1 p _ _ _ (x1.trans (.same x1.toWd (same_upd n))) (rep_lst x1.mu n rl.rev)⟩⟩⟩⟩
theorem o_revBL {xs : List D} {hc : CH} {P : D → Prop} : revB (.lst xs) hc P = P (.lst xs.reverse) := rfl
theorem o_revBT {xs : List D} {hc : CH} {P : D → Prop} : revB (.tup xs) hc P = P (.tup xs.reverse) := rfl
/-! ### texts of integers as values -/
theorem ofS_small (x : String) : ∀ c ∈ (Str.ofString x).cps.toList, c < 16 ^ 8 := fun c hc => by
  rw [Str.ofString_eq_toList] at hc
  simp at hc
  obtain ⟨a, _, rfl⟩ := hc
  have := a.val.toNat_lt
  show a.val.toNat < 16 ^ 8
  omega
theorem sh_txt {i : Int} {k : Nat} (h0 : 0 < k) (h : i.natAbs < 10 ^ k) : Sh 0 (10 * (k + 1) + 2) (.str (toString i)) := sh_str (by
  have e := int_text_length_le10 h0 h
  have l := StrLaws.reprText_len (Str.ofString (toString i)) (ofS_small _)
  rw [PySem.ofString_length] at l
  omega)
theorem sh_small {i : Int} {n c : Nat} (h : i.natAbs < 1000000000) (hc : 10 ≤ c := by decide) : Sh n c (.int i) := (sh_dig (k := 9) (by decide) (by
  have : (10 : Nat) ^ 9 = 1000000000 := by decide
  omega) (Nat.lt_of_lt_of_le h (by decide +kernel))).up (Nat.zero_le _) hc
theorem sh_stxt {i : Int} {n c : Nat} (h : i.natAbs < 1000000000) (hc : 102 ≤ c := by decide) : Sh n c (.str (toString i)) := (sh_txt (k := 9) (by decide) (by
  have : (10 : Nat) ^ 9 = 1000000000 := by decide
  omega)).up (Nat.zero_le _) hc
/-- x = e: what follows the value is a letter -/
theorem asg_step {ce : CEx} {i : Nat} {C : CEnds} {sc : List Sl} {hc : CH} (h : ∀ L : D → CH → Prop, (∀ d hc', C.nx (sc.set i (.val d)) hc' → L d hc') → ce C.xp sc hc L) : cAsg ce (gN i) C sc hc :=
  h (fun d hc' => C.nx (sc.set i (.val d)) hc') fun _ _ z => z
/-! ### x[e] = v, x an owned list -/
def gSubO (i : Nat) (ci : CEx) : CGx := fun E d sc hc P => match lookO sc i with
  | some ds => ci E sc hc fun y hc1 => match y with
    | .int k => oth (ixN ds.length k) fun j => P (sc.set i (.own (ds.set j d))) hc1
    | _ => False
  | none => False
theorem cg_sO {X : Cx} {W : WX} {x : Str} {px pos : Pos} {ie : Expr} {ci : CEx} (i : Nat) (hi : CE X W ie ci) (hN : X.N[i]? = some x := by rfl) (hv : Vis X.env.scope x := by first | exact Or.inl rfl | exact Or.inr (Or.inl rfl) | exact Or.inr (Or.inr rfl)) (hd : (x == ("__debug__" : Str)) = false := by decide) (hcd : (x == ("__classdict__" : Str)) = false := by decide)
    (ha : ∀ v, assign (.Subscript (.Name x px) ie pos) X.env v = (do
      let ov ← holding [v] (eval (.Name x px) X.env)
      let iv ← holding [v, ov] (eval ie X.env)
      standAt pos
      holding [v, ov, iv] (setItem ov iv v)
      release [v, ov, iv] []) := by intro _; rfl) : CG X W (.Subscript (.Name x px) ie pos) (gSubO i ci) :=
  ⟨pg_wk (pg_sub (pv i hN hv hd hcd) hi.p set_list ha) fun v σ H Q ⟨en, sc, hc, m, E, d, P, r, q, k, xo, f⟩ => by
    unfold gSubO at k
    split at k
    case h_2 => exact k.elim
    rename_i ds e0
    have e' := lookO_get e0
    obtain ⟨p, vs, e1, ma, h0, h1, eH, q1⟩ := r.own i ds e'
    refine ⟨.ref p, e1, en, sc, hc, m, E, _, r, k, xo, fun y hc1 k2 v2 H1 m1 x1 q2 => ?_⟩
    cases y <;> try exact k2.elim
    obtain ⟨j, ej, k3⟩ := oth_of k2
    unfold Rep at q2
    subst q2
    have r1 := r.call x1
    have s1 := x1.stp
    obtain ⟨p2, vs2, e2, _, _, _, eH2, qq⟩ := r1.own i ds e'
    rw [e1] at e2; cases e2
    have qd := Rep.mono r.mu s1 _ _ q
    obtain ⟨r2, s2⟩ := r1.grown e' e1 (RepL.set qd j qq)
    exact ⟨p, vs2, _, j, rfl, rfl, eH2, by rw [← qq.length]; exact ej, f _ _ k3 _ _ m1 r2 (s1.trans s2)⟩⟩
theorem e_gSubO {i : Nat} {ci : CEx} {E : XP} {d : D} {sc : List Sl} {hc : CH} {P : List Sl → CH → Prop} : gSubO i ci E d sc hc P = match lookO sc i with
  | some ds => ci E sc hc fun y hc1 => match y with
    | .int k => oth (ixN ds.length k) fun j => P (sc.set i (.own (ds.set j d))) hc1
    | _ => False
  | none => False := rfl
/-! ### a call without arguments -/
theorem ce_f0 {X : Cx} {W : WX} {x : Str} {p pos : Pos} {k l : Nat} {sp : Spc} (F : FnAt X.prog X.w X.K X.mg X.base k x [] sp) (hr : RT l X W) (hl : k ≤ l := by decide)
    (hg : Gl X x := by rfl) (hdb : (x == ("__debug__" : Str)) = false := by decide) : CE X W (.Call (.Name x p) [] [] pos) (cCall sp cNil) := by
  obtain ⟨f, fd, F1, hm, hk, hb, _⟩ := F
  exact ⟨pe_wk (pe_callX0 F1 (hr.mono hl) hg hm hk hb .nil hdb) fun σ H Q ⟨en, sc, hc, m, E, P, r, k, xo, fin⟩ =>
    ⟨hc, m, [], P, _, r.toWd, RepL.nil, k, fun d hc' pd v H' m' x q => fin d hc' pd v H' m' x q, fun y hc' py cls dx H' m' x q => xo y sc hc' py cls dx σ H' m' (r.call x) q⟩⟩
/-! ### repr of a value, of a list that is changed -/
def dref (hc : CH) : D → Option D
  | .ref a => (hc a).map D.lst
  | d => some d
def reprRD : On := fun ds hc P => match ds with
  | [d] => oth (dref hc d) fun e => ShOk e ∧ P (.str (shw e))
  | _ => False
theorem bf_reprR {X : Cx} {k : Nat} (g : RG k X.A) (st : statK X.K = true) : CallR X (.builtin "repr") (LVn X.K reprRD) := by
  intro pins s σ H xs us Q I r h
  obtain ⟨hc', m, ds, P, w, h1, f, fin⟩ := h
  unfold reprRD at f
  split at f
  · rename_i d
    obtain ⟨e, he, f⟩ := oth_of f
    obtain ⟨v, rfl, k1⟩ := wl1 h1
    have k2 : RepW X.K H m e v := by
      cases d <;> try (have he : some _ = some e := he; cases he; exact k1)
      rename_i a
      unfold RepW Rep at k1
      subst k1
      have he : (hc' a).map D.lst = some e := he
      cases q : hc' a with
      | none => rw [q] at he; cases he
      | some zs =>
        rw [q] at he; cases he
        obtain ⟨vs, e1, rl⟩ := w.heap _ _ q
        unfold RepW
        exact ⟨a, vs, rfl, e1, rl⟩
    exact bf_repr g st pins s σ H _ us Q I r ⟨hc', m, [e], P, w, Paired.cons k2 .nil, f, fin⟩
  · exact f.elim
theorem o_reprR {d : D} {hc : CH} {P : D → Prop} : reprRD [d] hc P = oth (dref hc d) fun e => ShOk e ∧ P (.str (shw e)) := rfl
theorem o_tupR {a : Addr} {hc : CH} {P : D → Prop} : tupleFD [.ref a] hc P = oth (hc a) fun xs => P (.tup xs) := rfl
theorem e_LstM {c : CAx} {E : XP} {sc : List Sl} {hc : CH} {P : D → CH → Prop} : cLstM c E sc hc P = c E sc hc fun ds hc1 => ds.length ≤ sizeLine ∧ ∀ p, hc1 p = none → P (.ref p) (updc hc1 p ds) := rfl
theorem e_gSub {co ci : CEx} {E : XP} {d : D} {sc : List Sl} {hc : CH} {P : List Sl → CH → Prop} : gSub' co ci E d sc hc P = co E sc hc fun o hc1 => ci E sc hc1 fun i hc2 => match o, i with
  | .ref a, .int k => oth (hc2 a) fun ds => oth (ixN ds.length k) fun j => P sc (updc hc2 a (ds.set j d))
  | _, _ => False := rfl
theorem o_mulT {xs : List D} {i : Int} {hc : CH} {P : D → Prop} : mulD (.tup xs) (.int i) hc P = ((xs ≠ [] ∧ 2 ≤ i ∧ i ≤ 1000 ∧ xs.length ≤ 1000) ∧ P (.tup (List.replicate i.toNat xs).flatten)) := rfl
theorem o_slR {a : Addr} {lo hi : Option Int} {hc : CH} {P : D → Prop} : slD (.ref a) lo hi hc P = oth (hc a) fun xs => P (.lst (cutX xs lo hi)) := rfl
end Mn

namespace Mn
open PySem PySem.Spec PyProof.Rows L2
/-! ### tuples of constants at the module's top -/
/-- what the tuple at a has at place i, if it is an object -/
def itemAt (K : PySem.W.Frag) (a : Addr) (i : Nat) : Addr := match K.lookup a with
  | some ⟨_, _, .seq its _, _⟩ => (match its.toList[i]? with
    | some (.ref p) => p
    | _ => 0)
  | _ => 0
def constV (K : PySem.W.Frag) (a : Addr) (i : Nat) : D → V
  | .int i => .int i
  | .str s => .str s
  | .bl b => .bl b
  | .tup _ => .ref (itemAt K a i)
  | _ => .non
def constVs (K : PySem.W.Frag) (a : Addr) : Nat → List D → List V
  | _, [] => []
  | i, d :: ds => constV K a i d :: constVs K a (i + 1) ds
/-- is there a tuple of these at a? -/
def tupAt (K : PySem.W.Frag) (a : Addr) (vs : List V) : Bool := match K.lookup a with
  | some ⟨.type c, _, .seq its _, _⟩ => decide (c = "tuple") && (decide (its.size ≤ sizeLine) && He.relAll vs its.toList)
  | _ => false
mutual
/-- what stands below is as told -/
def deepB (K : PySem.W.Frag) (a : Addr) (i : Nat) : D → Bool
  | .int _ => true
  | .str _ => true
  | .bl _ => true
  | .non => true
  | .tup xs => tupAt K (itemAt K a i) (constVs K (itemAt K a i) 0 xs) && deepBs K (itemAt K a i) 0 xs
  | _ => false
def deepBs (K : PySem.W.Frag) (a : Addr) (i : Nat) : List D → Bool
  | [] => true
  | d :: ds => deepB K a i d && deepBs K a (i + 1) ds
end
def tupN (K : PySem.W.Frag) (x : Str) (ds : List D) : Bool := tupAt K (He.ga K x) (constVs K (He.ga K x) 0 ds) && deepBs K (He.ga K x) 0 ds
theorem tupAt_ok {K : PySem.W.Frag} {a : Addr} {vs : List V} (h : tupAt K a vs = true) (H : Hp) : SqT K H a vs := by
  unfold tupAt at h
  split at h
  · next c d its n osl q =>
    rw [Bool.and_eq_true, Bool.and_eq_true, decide_eq_true_iff, decide_eq_true_iff] at h
    exact .inr ⟨_, its, n, q, congrArg Value.type h.1, rfl, h.2.1, He.relAll_ok h.2.2⟩
  · cases h
mutual
theorem deepB_ok {K : PySem.W.Frag} {H : Hp} {m : Ms} {a : Addr} {i : Nat} : ∀ d : D, deepB K a i d = true → Rep K H m d (constV K a i d)
  | .int _, _ => by unfold Rep; rfl
  | .str _, _ => by unfold Rep; rfl
  | .bl _, _ => by unfold Rep; rfl
  | .non, _ => by unfold Rep; rfl
  | .tup xs, h => by
    unfold deepB at h
    rw [Bool.and_eq_true] at h
    unfold Rep
    exact ⟨_, _, rfl, tupAt_ok h.1 H, deepBs_ok xs h.2⟩
  | .lst _, h => by unfold deepB at h; cases h
  | .ref _, h => by unfold deepB at h; cases h
  | .dct _ _, h => by unfold deepB at h; cases h
  | .frz _, h => by unfold deepB at h; cases h
  | .clo _ _ _, h => by unfold deepB at h; cases h
  | .exn _ _ _ _, h => by unfold deepB at h; cases h
  | .fn _, h => by unfold deepB at h; cases h
theorem deepBs_ok {K : PySem.W.Frag} {H : Hp} {m : Ms} {a : Addr} {i : Nat} : ∀ ds : List D, deepBs K a i ds = true → RepL K H m ds (constVs K a i ds)
  | [], _ => by unfold RepL; rfl
  | d :: ds, h => by
    unfold deepBs at h
    rw [Bool.and_eq_true] at h
    unfold RepL
    exact ⟨_, _, rfl, deepB_ok d h.1, deepBs_ok ds h.2⟩
end
theorem GlobC.tup {K : PySem.W.Frag} {mg : Str → Option Value} {x : Str} {ds : List D} (h : mg x = some (.ref (He.ga K x))) (t : tupN K x ds = true) (_ : ds.length = ds.length) : GlobC K mg x (.tup ds) := by
  unfold tupN at t
  rw [Bool.and_eq_true] at t
  refine ⟨.ref (He.ga K x), .ref (He.ga K x), h, rfl, fun H m => ?_⟩
  unfold Rep
  exact ⟨_, _, rfl, tupAt_ok t.1 H, deepBs_ok ds t.2⟩
/-! ### the hook with such tuples -/
abbrev TupC := List (Str × List D)
def obsU (fa : List He.Fa) (fn : List He.DefD) (tc : TupC) (K : PySem.W.Frag) : He.AlD × Bool := (He.obsD fa fn K, statK K && tc.all fun t => tupN K t.1 t.2)
def SaysU (fa : List He.Fa) (fn : List He.DefD) (tc : TupC) (K : PySem.W.Frag) : Prop := obsU fa fn tc K = (He.valD fn, true)
def obsUG (n : Nat) (fa : List He.Fa) (fn : List He.DefD) (tc : TupC) (g : Addr → Option Obj) : He.AlD × Bool := obsU fa fn tc (He.frG g (He.asD g n ++ [sysModules, cStatics]))
def hookU (n : Nat) (fa : List He.Fa) (fn : List He.DefD) (tc : TupC) : PySem.W.Hook where
  α := He.AlD × Bool
  obs := fun s => obsUG n fa fn tc s.heap.get?
  val := fun _ => (He.valD fn, true)
  says := fun _ h => ∃ K : PySem.W.Frag, K.In h ∧ SaysU fa fn tc K
  of := fun _ _ e => ⟨_, He.frG_in, e⟩
  keeps := fun _ _ _ ⟨K, hK, c⟩ k => ⟨K, PySem.W.Frag.In.keeps hK k, c⟩
theorem obsUG_eq {n : Nat} {fa : List He.Fa} {fn : List He.DefD} {tc : TupC} {g : Addr → Option Obj} {s : Shared} (h : ∀ a, g a = s.heap.get? a) : obsUG n fa fn tc g = (hookU n fa fn tc).obs s := by
  have e : g = s.heap.get? := funext h
  subst e
  rfl
theorem SaysU.d {fa : List He.Fa} {fn : List He.DefD} {tc : TupC} {K : PySem.W.Frag} (c : SaysU fa fn tc K) : He.SaysD fa fn K := congrArg (fun z : He.AlD × Bool => z.1) c
theorem SaysU.two {fa : List He.Fa} {fn : List He.DefD} {tc : TupC} {K : PySem.W.Frag} (c : SaysU fa fn tc K) : statK K = true ∧ (tc.all fun t => tupN K t.1 t.2) = true := by
  have h : (statK K && tc.all fun t => tupN K t.1 t.2) = true := congrArg (fun z : He.AlD × Bool => z.2) c
  rwa [Bool.and_eq_true] at h
theorem SaysU.s {fa : List He.Fa} {fn : List He.DefD} {tc : TupC} {K : PySem.W.Frag} (c : SaysU fa fn tc K) : statK K = true := c.two.1
theorem SaysU.t {fa : List He.Fa} {fn : List He.DefD} {tc : TupC} {K : PySem.W.Frag} (c : SaysU fa fn tc K) (i : Nat) {x : Str} {ds : List D} (h : tc[i]? = some (x, ds) := by rfl) : tupN K x ds = true :=
  List.all_eq_true.mp c.two.2 (x, ds) (List.mem_of_getElem? h)
end Mn

namespace Mn
open PySem PySem.Spec PyProof.Rows L2
/-! ### match upon a text: cases are texts, the last one may be anything -/
abbrev Arm := Option Str × CSx
def cArms : List Arm → Str → CSx
  | [], _ => cNext
  | (some z, c) :: r, x => fun C sc hc => if x = z then c C sc hc else cArms r x C sc hc
  | (none, c) :: _, _ => c
def cMatch (ce : CEx) (as : List Arm) : CSx := fun C sc hc => ce C.xp sc hc fun d hc1 => match d with
  | .str x => cArms as x C sc hc1
  | _ => False
inductive Arms (X : Cx) (W : WX) : List MatchCase → List Arm → Prop where
  | nil : Arms X W [] []
  | val {x : Str} {j : Nat} {p1 p2 : Pos} {body : List Stmt} {c : CSx} {r : List MatchCase} {rs : List Arm} (h : CSs X W body c) (hr : Arms X W r rs) : Arms X W (⟨.MatchValue (.Constant (.str x) j p1) p2, none, body⟩ :: r) ((some x, c) :: rs)
  | or2 {x y : Str} {j1 j2 : Nat} {p1 p2 p3 p4 p5 : Pos} {body : List Stmt} {c : CSx} {r : List MatchCase} {rs : List Arm} (h : CSs X W body c) (hr : Arms X W r rs) :
      Arms X W (⟨.MatchOr [.MatchValue (.Constant (.str x) j1 p1) p2, .MatchValue (.Constant (.str y) j2 p3) p4] p5, none, body⟩ :: r) ((some x, c) :: (some y, c) :: rs)
  | any {p : Pos} {body : List Stmt} {c : CSx} {r : List MatchCase} {rs : List Arm} (h : CSs X W body c) (hr : Arms X W r rs) : Arms X W (⟨.MatchAs none none p, none, body⟩ :: r) ((none, c) :: rs)
theorem pat_val {X : Cx} {pins : List (Addr × Obj)} {s : Shared} {σ : L2.St} {H : Hp} {x z : Str} {u : Value} {j : Nat} {p1 p2 : Pos} {Q : Option (List (Str × Value)) → Shared → Prop} (I : Inv X pins σ H s) (rx : RelV (.str x) u) (h : ∀ s', Inv X pins σ H s' → Q (if x = z then some [] else none) s') :
    wpAny (model X.prog X.w) X.A (matchPattern (.MatchValue (.Constant (.str z) j p1) p2) X.env u) Q X.xe s := by
  refine wpAny_matchPattern_Value (thn ((pe_str (X := X) (x := z) (j := j) (pos := p1)).run pins s σ H (fun v H' => v = .str z ∧ H' = H) I ⟨rfl, rfl⟩) fun y s1 ⟨v, H1, I1, rv, e1, e2⟩ => ?_)
  subst e1
  subst e2
  refine thn (op_eq pins s1 σ H1 (.str x) (.str z) u y (fun v H' => v = .bl (decide (V.str x = V.str z)) ∧ H' = H1) I1 rx rv ⟨rfl, rfl, rfl⟩) fun w s2 ⟨v2, H2, I2, rv2, e1, e2⟩ => ?_
  subst e2
  subst e1
  cases (show w = Value.bool (decide (V.str x = V.str z)) from rv2)
  refine wpAny_truthy_bool ?_
  have q := h s2 I2
  by_cases e : x = z
  · rw [if_pos e] at q
    rw [if_pos (by rw [e]; exact decide_eq_true rfl)]
    exact q
  · rw [if_neg e] at q
    rw [if_neg (by rw [decide_eq_true_iff]; intro q; exact e (by cases q; rfl))]
    exact q
theorem arms_run {X : Cx} {W : WX} {cases : List MatchCase} {as : List Arm} (h : Arms X W cases as) : ∀ (pins : List (Addr × Obj)) (s : Shared) (σ : L2.St) (H : Hp) (D : Ends) (x : Str) (u : Value) (first : Bool), Inv X pins σ H s → RelV (.str x) u → LS X W (cArms as x) D σ H →
    wpAny (model X.prog X.w) X.A (matchCases cases X.env u first) (SP X pins D) X.xe s := by
  induction h with
  | nil =>
    intro pins s σ H D x u first I rx ⟨en, sc, hc, m, C, r, k, f⟩
    exact wpAny_matchCases_nil ⟨σ, H, I, f.nx sc hc k σ H m r .refl⟩
  | @val z j p1 p2 body c r rs h hr ih =>
    intro pins s σ H D x u first I rx ⟨en, sc, hc, m, C, rr, k, f⟩
    refine wpAny_matchCases_cons (wpAny_matchPattern_Value (thn ((pe_str (X := X) (x := z) (j := j) (pos := p1)).run pins s σ H (fun v H' => v = .str z ∧ H' = H) I ⟨rfl, rfl⟩) fun y s1 ⟨v, H1, I1, rv, e1, e2⟩ => ?_))
    subst e1
    subst e2
    refine thn (op_eq pins s1 σ H1 (.str x) (.str z) u y (fun v H' => v = .bl (decide (V.str x = V.str z)) ∧ H' = H1) I1 rx rv ⟨rfl, rfl, rfl⟩) fun w s2 ⟨v2, H2, I2, rv2, e1, e2⟩ => ?_
    subst e2
    subst e1
    cases (show w = Value.bool (decide (V.str x = V.str z)) from rv2)
    refine wpAny_truthy_bool ?_
    have k : (if x = z then c C sc hc else cArms rs x C sc hc) := k
    by_cases e : x = z
    · rw [if_pos e] at k
      rw [if_pos (by rw [e]; exact decide_eq_true rfl)]
      exact wpAny_assignInOrder_none (h.p.run pins s2 σ H2 D I2 ⟨en, sc, hc, m, C, rr, k, f⟩)
    · rw [if_neg e] at k
      rw [if_neg (by rw [decide_eq_true_iff]; intro q; exact e (by cases q; rfl))]
      exact ih pins s2 σ H2 D x u false I2 rx ⟨en, sc, hc, m, C, rr, k, f⟩
  | @or2 z1 z2 j1 j2 p1 p2 p3 p4 p5 body c r rs h hr ih =>
    intro pins s σ H D x u first I rx ⟨en, sc, hc, m, C, rr, k, f⟩
    have k : (if x = z1 then c C sc hc else if x = z2 then c C sc hc else cArms rs x C sc hc) := k
    refine wpAny_matchCases_cons (wpAny_matchPattern_Or (wpAny_matchFirst_cons (pat_val I rx fun s1 I1 => ?_)))
    by_cases e : x = z1
    · rw [if_pos e] at k
      rw [if_pos e]
      exact wpAny_assignInOrder_none (h.p.run pins s1 σ H D I1 ⟨en, sc, hc, m, C, rr, k, f⟩)
    · rw [if_neg e] at k
      rw [if_neg e]
      refine wpAny_matchFirst_cons (pat_val I1 rx fun s2 I2 => ?_)
      by_cases e : x = z2
      · rw [if_pos e] at k
        rw [if_pos e]
        exact wpAny_assignInOrder_none (h.p.run pins s2 σ H D I2 ⟨en, sc, hc, m, C, rr, k, f⟩)
      · rw [if_neg e] at k
        rw [if_neg e]
        exact wpAny_matchFirst_nil (ih pins s2 σ H D x u false I2 rx ⟨en, sc, hc, m, C, rr, k, f⟩)
  | @any p body c r rs h hr ih =>
    intro pins s σ H D x u first I rx q
    exact wpAny_matchCases_cons (wpAny_matchPattern_Capture (wpAny_assignInOrder_none (h.p.run pins s σ H D I q)))
theorem cs_match {X : Cx} {W : WX} {e : Expr} {ce : CEx} {cases : List MatchCase} {as : List Arm} {pos : Pos} (h : CE X W e ce) (ha : Arms X W cases as) : CS X W (.Match e cases pos) (cMatch ce as) := by
  refine ⟨⟨fun pins s σ H D I ⟨en, sc, hc, m, C, r, k, f⟩ => ?_⟩⟩
  refine wpAny_Match (thn (h.p.run pins s σ H (fun v H1 => ∃ x, v = .str x ∧ LS X W (cArms as x) D σ H1) I ⟨en, sc, hc, m, C.xp, _, r, k, f.xp, fun d hc1 hp v H1 m1 x1 q1 => ?_⟩) fun u s1 ⟨v, H1, I1, rv, x, e1, q⟩ => ?_)
  · cases d <;> try exact hp.elim
    rename_i x
    unfold Rep at q1
    exact ⟨x, q1, en, sc, hc1, m1, C, r.call x1, hp, f.step x1.stp⟩
  · subst e1
    exact arms_run ha pins s1 σ H1 D x u true I1 rv q
section
variable {C : CEnds} {sc : List Sl} {hc : CH} {x z : Str} {c : CSx} {r : List Arm} {ce : CEx}
theorem e_Match {as : List Arm} : cMatch ce as C sc hc = ce C.xp sc hc fun d hc1 => match d with
  | .str x => cArms as x C sc hc1
  | _ => False := rfl
theorem e_arm1 : cArms ((some z, c) :: r) x C sc hc = if x = z then c C sc hc else cArms r x C sc hc := rfl
theorem e_arm2 : cArms ((none, c) :: r) x C sc hc = c C sc hc := rfl
theorem e_arm0 : cArms [] x C sc hc = C.nx sc hc := rfl
end
/-! ### zip of two lists -/
def zipD (xs ys : List D) : List D := List.zipWith (fun x y => D.tup [x, y]) xs ys
def zipP (ds : List D) (P : List D → CH → Prop) (hc : CH) : Prop := match ds with
  | [.lst xs, .lst ys] => P (zipD xs ys) hc
  | _ => False
def cZip (c1 c2 : CEx) : CIx := fun E sc hc P => cCons c1 (cCons c2 cNil) E sc hc fun ds hc1 => zipP ds P hc1
theorem ci_zip {X : Cx} {W : WX} {elts : List Expr} {kk : Nat} {tpos p pos : Pos} {e e2 : Expr} {c1 c2 : CEx} (hm : X.mg "zip" = none) (h1 : CE X W e c1) (h2 : CE X W e2 c2) (hg : Gl X "zip" := by rfl) (hs : starEach [e, e2] X.env = (false, eval e X.env) :: starEach [e2] X.env := by rfl) (hs2 : starEach [e2] X.env = (false, eval e2 X.env) :: starEach [] X.env := by rfl) (hpl : (backTo pos (starEach [e2] X.env)).any (·.1) = false := by rfl) :
    CI X W (.Tuple elts kk tpos) (.Call (.Name "zip" p) [e, e2] [] pos) (cZip c1 c2) := ⟨pi_wk (pi_zip hg hm (ca_cons h1 (ca_cons h2 ca_nil hs2) hs).p hs hpl) fun σ H R ⟨en, sc, hc, m, E, P, r, k, xo, fin⟩ =>
  ⟨en, sc, hc, m, E, fun ds hc1 => zipP ds P hc1, r, k, xo, fun ds hc1 pz vs H1 m1 x1 q => by
    have mu1 := (r.call x1).mu
    have pz : zipP ds P hc1 := pz
    unfold zipP at pz
    split at pz
    · rename_i xs ys _
      unfold RepL at q
      obtain ⟨v1, r1, rfl, qa, q⟩ := q
      unfold RepL at q
      obtain ⟨v2, r2, rfl, qb, q⟩ := q
      unfold RepL at q
      subst q
      unfold Rep at qa qb
      obtain ⟨a, us, rfl, na, ha, la⟩ := qa
      obtain ⟨b, ws, rfl, nb, hb, lb⟩ := qb
      refine ⟨a, b, us, ws, rfl, .of ha, .of hb, fin _ hc1 pz _ H1 m1 x1 fun H2 m2 mo s2 i => ⟨fun d ed => ?_, fun hl => ?_⟩⟩
      · unfold zipD at ed
        rw [List.getElem?_zipWith] at ed
        cases ex : xs[i]? with
        | none => rw [ex] at ed; cases ed
        | some x =>
          cases ey : ys[i]? with
          | none => rw [ex, ey] at ed; cases ed
          | some y =>
            rw [ex, ey] at ed
            cases ed
            obtain ⟨u, eu, ru⟩ := la.get ex
            obtain ⟨w, ew, rw'⟩ := lb.get ey
            have hqa := SqL.of (K := X.K) (s2.keep _ _ ha trivial na)
            have hqb := SqL.of (K := X.K) (s2.keep _ _ hb trivial nb)
            refine ⟨⟨us, ws, u, w, hqa, hqb, eu, ew⟩, fun x3 H3 ⟨T, u', w', e3, nT, eH, g1, g2⟩ => ?_⟩
            have t1 := g1 us hqa
            have t2 := g2 ws hqb
            rw [eu] at t1; cases t1
            rw [ew] at t2; cases t2
            subst e3
            subst eH
            exact ⟨same_upd nT, rep_tup mo nT (RepL.cons (Rep.mono mu1 s2 _ _ ru) (RepL.cons (Rep.mono mu1 s2 _ _ rw') RepL.nil))⟩
      · refine ⟨us, ws, .of (s2.keep _ _ ha trivial na), .of (s2.keep _ _ hb trivial nb), ?_⟩
        rw [← la.length, ← lb.length]
        unfold zipD at hl
        rw [List.length_zipWith] at hl
        omega
    · exact pz.elim⟩⟩
theorem e_Zip {c1 c2 : CEx} {E : XP} {sc : List Sl} {hc : CH} {P : List D → CH → Prop} : cZip c1 c2 E sc hc P = cCons c1 (cCons c2 cNil) E sc hc fun ds hc1 => zipP ds P hc1 := rfl
theorem o_zip {xs ys : List D} {hc : CH} {P : List D → CH → Prop} : zipP [.lst xs, .lst ys] P hc = P (zipD xs ys) hc := rfl
theorem zip_mem {xs ys : List D} {d : D} (h : d ∈ zipD xs ys) : ∃ x ∈ xs, ∃ y ∈ ys, d = .tup [x, y] := by
  obtain ⟨i, ed⟩ := List.mem_iff_getElem?.mp h
  unfold zipD at ed
  rw [List.getElem?_zipWith] at ed
  cases ex : xs[i]? with
  | none => rw [ex] at ed; cases ed
  | some x =>
    cases ey : ys[i]? with
    | none => rw [ex, ey] at ed; cases ed
    | some y =>
      rw [ex, ey] at ed
      cases ed
      exact ⟨x, List.mem_of_getElem? ex, y, List.mem_of_getElem? ey, rfl⟩
/-- x.extend(e), x an owned list, e a list -/
def cExt (i : Nat) (ce : CEx) : CSx := fun C sc hc => match lookO sc i with
  | some ds => ce C.xp sc hc fun d hc1 => match d with
    | .lst zs => ds.length + zs.length ≤ sizeLine ∧ C.nx (sc.set i (.own (ds ++ zs))) hc1
    | _ => False
  | none => False
section
variable {X : Cx} {W : WX} {e : Expr} {ce : CEx} {pos : Pos}
theorem cs_ext {x : Str} {px pa : Pos} (i : Nat) (he : CE X W e ce) (hN : X.N[i]? = some x := by rfl) (hv : Vis X.env.scope x := by first | exact Or.inl rfl | exact Or.inr (Or.inl rfl) | exact Or.inr (Or.inr rfl)) (hd : (x == ("__debug__" : Str)) = false := by decide) (hcd : (x == ("__classdict__" : Str)) = false := by decide)
    (hs : starEach [e] X.env = (false, eval e X.env) :: starEach [] X.env := by rfl)
    (hb : attributeBase (.Name x px) "extend" X.env (eval (.Name x px) X.env) = eval (.Name x px) X.env := by rfl) {pc : Pos}
    (hfew : ((backTo pc (starEach [e] X.env)).all (fun x => !x.1) && (backToKw pc (keywordEach [] X.env)).all (fun x => x.1.isSome)
      && decide ([e].length + ([] : List Keyword).length + (if ([] : List Keyword).isEmpty then 0 else 1) < 30)) = true := by rfl)
    (hl : (pa.endLine == pc.line) = true := by rfl)
    (hsw : swapsWith (.Call (.Attribute (.Name x px) "extend" pa) [e] [] pc) none pos.line X.env = pure false := by rfl) : CS X W (.Expr (.Call (.Attribute (.Name x px) "extend" pa) [e] [] pc) pos) (cExt i ce) :=
  ⟨ps_wk (ps_expr (pe_bm PySem.F.plainAttrs_list PySem.F.slot_list_extend PySem.F.type_list_extend mt_extend (pv i hN hv hd hcd) (pa_cons he.p pa_nil hs) hb hfew hl hs) hsw) fun D σ H ⟨en, sc, hc, m, C, r, k, f⟩ => by
    unfold cExt at k
    split at k
    case h_2 => exact k.elim
    rename_i ds e0
    have e' := lookO_get e0
    obtain ⟨p, vs, e1, ma, h0, h1, eH, q1⟩ := r.own i ds e'
    refine ⟨.ref p, e1, .inl ⟨rfl, vs, .of eH⟩, en, sc, hc, m, C.xp, _, r, k, f.xp, fun d hc1 pp v H1 m1 x1 q => ?_⟩
    have r1 := r.call x1
    have s1 := x1.stp
    cases d <;> try exact pp.elim
    rename_i zs
    have pp : ds.length + zs.length ≤ sizeLine ∧ C.nx (sc.set i (.own (ds ++ zs))) hc1 := pp
    unfold Rep at q
    obtain ⟨b, ws, rfl, nb, eb, lb⟩ := q
    obtain ⟨p2, vs2, e2, _, _, _, eH2, q2⟩ := r1.own i ds e'
    rw [e1] at e2; cases e2
    obtain ⟨r2, s2⟩ := r1.grown e' e1 (q2.append lb)
    exact ⟨p, b, vs2, ws, rfl, rfl, eH2, eb, by rw [← q2.length, ← lb.length]; exact pp.1, f.nx _ hc1 pp.2 _ _ m1 r2 (s1.trans s2)⟩⟩
end
theorem e_Ext {i : Nat} {ce : CEx} {C : CEnds} {sc : List Sl} {hc : CH} : cExt i ce C sc hc = match lookO sc i with
  | some ds => ce C.xp sc hc fun d hc1 => match d with
    | .lst zs => ds.length + zs.length ≤ sizeLine ∧ C.nx (sc.set i (.own (ds ++ zs))) hc1
    | _ => False
  | none => False := rfl
/-- x, y = e, [..], y's list its own -/
def cParO2 (i j : Nat) (ca : CEx) (cb : CAx) : CSx := fun C sc hc => ca C.xp sc hc fun d hc1 => cb C.xp sc hc1 fun ds hc2 => ds.length ≤ sizeLine ∧ C.nx ((sc.set i (.val d)).set j (.own ds)) hc2
section
variable {X : Cx} {W : WX} {ca : CEx} {cb : CAx} {pos : Pos}
theorem cs_parO2 {i j : Nat} {x y : Str} {a : Expr} {es : List Expr} {px py pt p3 : Pos} {kt k2 : Nat} {p2 : Pos} (hc : X.calm = true) (hN : X.N.Nodup) (ha : CE X W a ca) (hb : CA X W es cb) (hw : swappedStores [.Tuple [.Name x px, .Name y py] kt pt] (.Tuple [a, .List es p3] k2 p2) X.env = pure (some [x, y]) := by rfl) (hi : X.N[i]? = some x := by rfl) (hj : X.N[j]? = some y := by rfl) (hij : i ≠ j := by decide)
    (hx : X.env.scope.names.lookup x = some .local := by rfl) (hy : X.env.scope.names.lookup y = some .local := by rfl)
    (hs : swapsWithSole [.Tuple [.Name x px, .Name y py] kt pt] (.Tuple [a, .List es p3] k2 p2) pos.line X.env = pure false := by rfl)
    (h1 : starEach [a, .List es p3] X.env = (false, eval a X.env) :: starEach [.List es p3] X.env := by rfl) (h2 : starEach [.List es p3] X.env = (false, eval (.List es p3) X.env) :: starEach [] X.env := by rfl) : CS X W (.Assign [.Tuple [.Name x px, .Name y py] kt pt] (.Tuple [a, .List es p3] k2 p2) pos) (cParO2 i j ca cb) :=
  ⟨ps_wk (ps_par hc hN hi hj hij hx hy (pa_cons ha.p (pa_cons (pe_lst hb.p) pa_nil h2) h1) hw hs) fun D σ H ⟨en, sc, hc, m, C, r, k, f⟩ =>
    ⟨en, sc, hc, m, C.xp, _, r, k, f.xp, fun d hc1 p v H1 m1 x1 q1 => ⟨en, sc, hc1, m1, C.xp, _, r.call x1, p, f.xp, fun ds hc2 p2 vs H2 m2 x2 q2 => ⟨by rw [← q2.length]; exact p2.1, fun a n => by
      have r2 := (r.call x1).call x2
      obtain ⟨m3, r3, s3⟩ := (r2.put i (Rep.mono (r.call x1).mu x2.stp _ _ q1)).mine j n q2
      exact ⟨v, .ref a, rfl, f.nx _ hc2 p2.2 _ _ m3 r3 ((x1.stp.trans x2.stp).trans s3)⟩⟩⟩⟩⟩
end
theorem e_ParO2 {i j : Nat} {ca : CEx} {cb : CAx} {C : CEnds} {sc : List Sl} {hc : CH} : cParO2 i j ca cb C sc hc = ca C.xp sc hc fun d hc1 => cb C.xp sc hc1 fun ds hc2 => ds.length ≤ sizeLine ∧ C.nx ((sc.set i (.val d)).set j (.own ds)) hc2 := rfl
/-! ### list(range(..)) -/
def cLRg1 (ca : CEx) : CEx := fun E sc hc P => ca E sc hc fun d hc1 => match d with
  | .int n => (-(2 ^ 62) ≤ n ∧ n ≤ 16777216) ∧ P (.lst (rngD 0 n)) hc1
  | _ => False
def cLRg2 (ca cb : CEx) : CEx := fun E sc hc P => ca E sc hc fun d hc1 => cb E sc hc1 fun d2 hc2 => match d, d2 with
  | .int a, .int b => (-16777216 ≤ a ∧ a ≤ 16777216 ∧ -16777216 ≤ b ∧ b ≤ 16777216 ∧ b - a ≤ 16777216) ∧ P (.lst (rngD a b)) hc2
  | _, _ => False
theorem repL_rng {K : PySem.W.Frag} {H : Hp} {m : Ms} {a : Int} : ∀ l : List Nat, RepL K H m (l.map fun k => D.int (a + (k : Nat))) (l.map fun k => V.int (a + (k : Nat)))
  | [] => RepL.nil
  | x :: l => RepL.cons rep_int (repL_rng l)
section
variable {X : Cx} {W : WX} {e e2 : Expr} {ca cb : CEx} {p p2 pos pos2 : Pos}
theorem ce_lrg1 (hc : X.calm = true) (hl : X.mg "list" = none) (hr : X.mg "range" = none) (h : CE X W e ca) (hg : Gl X "list" := by rfl) (hg2 : Gl X "range" := by rfl) (na : starEach [e] X.env = (false, eval e X.env) :: starEach [] X.env := by rfl)
    (nb : starEach [.Call (.Name "range" p2) [e] [] pos2] X.env = (false, eval (.Call (.Name "range" p2) [e] [] pos2) X.env) :: starEach [] X.env := by rfl) : CE X W (.Call (.Name "list" p) [.Call (.Name "range" p2) [e] [] pos2] [] pos) (cLRg1 ca) :=
  ⟨pe_wk (pe_listRg hc hg hl (prg_1 hg2 hr h.p na) nb) fun σ H Q ⟨en, sc, hc, m, E, P, r, k, xo, fin⟩ =>
    ⟨en, sc, hc, m, E, _, r, k, xo, fun d hc1 pp v H1 m1 x1 q => by
      cases d <;> try exact pp.elim
      rename_i n
      unfold Rep at q
      have pp : (-(2 ^ 62) ≤ n ∧ n ≤ 16777216) ∧ P (.lst (rngD 0 n)) hc1 := pp
      exact ⟨n, q, ⟨by decide, by decide, pp.1.1, by omega, by omega⟩, fun a na => fin _ hc1 pp.2 _ _ m1 (x1.trans (Ex.same x1.toWd (same_upd na))) (rep_lst (r.call x1).mu na (repL_rng _))⟩⟩⟩
theorem ce_lrg2 (hc : X.calm = true) (hl : X.mg "list" = none) (hr : X.mg "range" = none) (h : CE X W e ca) (h2 : CE X W e2 cb) (hg : Gl X "list" := by rfl) (hg2 : Gl X "range" := by rfl) (na : starEach [e, e2] X.env = (false, eval e X.env) :: starEach [e2] X.env := by rfl) (nb : starEach [e2] X.env = (false, eval e2 X.env) :: starEach [] X.env := by rfl)
    (hp : (backTo pos2 (starEach [e2] X.env)).any (·.1) = false := by rfl) (nc : starEach [.Call (.Name "range" p2) [e, e2] [] pos2] X.env = (false, eval (.Call (.Name "range" p2) [e, e2] [] pos2) X.env) :: starEach [] X.env := by rfl) : CE X W (.Call (.Name "list" p) [.Call (.Name "range" p2) [e, e2] [] pos2] [] pos) (cLRg2 ca cb) :=
  ⟨pe_wk (pe_listRg hc hg hl (prg_2 hg2 hr h.p h2.p na nb hp) nc) fun σ H Q ⟨en, sc, hc, m, E, P, r, k, xo, fin⟩ =>
    ⟨en, sc, hc, m, E, _, r, k, xo, fun d hc1 pp v H1 m1 x1 q => ⟨en, sc, hc1, m1, E, _, r.call x1, pp, xo, fun d2 hc2 pp v2 H2 m2 x2 q2 => by
      cases d <;> cases d2 <;> try exact pp.elim
      rename_i a _ b
      unfold Rep at q q2
      have pp : (-16777216 ≤ a ∧ a ≤ 16777216 ∧ -16777216 ≤ b ∧ b ≤ 16777216 ∧ b - a ≤ 16777216) ∧ P (.lst (rngD a b)) hc2 := pp
      have x12 := x1.trans x2
      exact ⟨a, b, q, q2, ⟨by omega, by omega, by omega, by omega, by omega⟩, fun c na => fin _ hc2 pp.2 _ _ m2 (x12.trans (Ex.same x12.toWd (same_upd na))) (rep_lst ((r.call x1).call x2).mu na (repL_rng _))⟩⟩⟩⟩
end
theorem e_LRg1 {ca : CEx} {E : XP} {sc : List Sl} {hc : CH} {P : D → CH → Prop} : cLRg1 ca E sc hc P = ca E sc hc fun d hc1 => match d with
  | .int n => (-(2 ^ 62) ≤ n ∧ n ≤ 16777216) ∧ P (.lst (rngD 0 n)) hc1
  | _ => False := rfl
theorem e_LRg2 {ca cb : CEx} {E : XP} {sc : List Sl} {hc : CH} {P : D → CH → Prop} : cLRg2 ca cb E sc hc P = ca E sc hc fun d hc1 => cb E sc hc1 fun d2 hc2 => match d, d2 with
  | .int a, .int b => (-16777216 ≤ a ∧ a ≤ 16777216 ∧ -16777216 ≤ b ∧ b ≤ 16777216 ∧ b - a ≤ 16777216) ∧ P (.lst (rngD a b)) hc2
  | _, _ => False := rfl
/-- the lowest bit set -/
theorem or_one (x : Int) : Builtin.bitOr x 1 = x + 1 - x % 2 := by rw [bitOr_and, bitAnd_m1]
end Mn

namespace Mn
open PySem PySem.Spec PyProof.Rows L2
/-! ### rstrip -/
def cRs (ca cb : CEx) : CEx := fun E sc hc P => ca E sc hc fun d hc1 => match d with
  | .str a => cb E sc hc1 fun d2 hc2 => match d2 with
    | .str b => a.length ≤ sizeLine ∧ P (.str (Txt.rstripChars a b)) hc2
    | _ => False
  | _ => False
section
variable {X : Cx} {W : WX} {e e2 : Expr} {ca cb : CEx} {apos pos : Pos}
theorem ce_rstrip (h : CE X W e ca) (h2 : CE X W e2 cb) (hs : starEach [e2] X.env = (false, eval e2 X.env) :: starEach [] X.env := by rfl)
    (hb : attributeBase e "rstrip" X.env (eval e X.env) = eval e X.env := by rfl)
    (hfew : ((backTo pos (starEach [e2] X.env)).all (fun x => !x.1) && (backToKw pos (keywordEach [] X.env)).all (fun x => x.1.isSome)
      && decide ([e2].length + ([] : List Keyword).length + (if ([] : List Keyword).isEmpty then 0 else 1) < 30)) = true := by rfl)
    (hl : (apos.endLine == pos.line) = true := by rfl) : CE X W (.Call (.Attribute e "rstrip" apos) [e2] [] pos) (cRs ca cb) :=
  ⟨pe_wk (pe_bm PySem.F.plainAttrs_str PySem.F.slot_str_rstrip PySem.F.type_str_rstrip mt_rstripChars h.p (pa_cons h2.p pa_nil hs) hb hfew hl hs) fun σ H Q ⟨en, sc, hc, m, E, P, r, k, xo, fin⟩ =>
    ⟨en, sc, hc, m, E, _, r, k, xo, fun d hc1 p v H1 m1 x1 q => by
      cases d <;> try exact p.elim
      rename_i a
      unfold Rep at q
      subst q
      exact ⟨rfl, en, sc, hc1, m1, E, _, r.call x1, p, xo, fun d2 hc2 p2 v2 H2 m2 x2 q2 => by
        cases d2 <;> try exact p2.elim
        rename_i b
        unfold Rep at q2
        subst q2
        have p2 : a.length ≤ sizeLine ∧ P (.str (Txt.rstripChars a b)) hc2 := p2
        exact ⟨a, b, rfl, rfl, p2.1, fin _ hc2 p2.2 _ H2 m2 (x1.trans x2) rep_str⟩⟩⟩⟩
end
theorem e_Rs {ca cb : CEx} {E : XP} {sc : List Sl} {hc : CH} {P : D → CH → Prop} : cRs ca cb E sc hc P = ca E sc hc fun d hc1 => match d with
  | .str a => cb E sc hc1 fun d2 hc2 => match d2 with
    | .str b => a.length ≤ sizeLine ∧ P (.str (Txt.rstripChars a b)) hc2
    | _ => False
  | _ => False := rfl
/-! ### the zeros at a number's end -/
theorem zeros_at : ∀ (f n : Nat), 0 < n → n ≤ f → ∃ z m, n = m * 10 ^ z ∧ m % 10 ≠ 0 ∧ (((Nat.toDigits 10 n).map Char.toNat).reverse.takeWhile (fun k => k == 48)).length = z
  | 0, n, h, g => by omega
  | f + 1, n, h, g => by
    by_cases s : n < 10
    · refine ⟨0, n, by rw [Nat.pow_zero, Nat.mul_one], by omega, ?_⟩
      rw [Nat.toDigits_of_lt_base s, List.map_singleton, List.reverse_singleton, List.takeWhile_cons, Nat.toNat_digitChar_of_lt_ten s, if_neg (by simp; omega)]
      rfl
    · have e := Nat.toDigits_of_base_le (b := 10) (n := n) (by decide) (by omega)
      have r := Nat.toNat_digitChar_of_lt_ten (n := n % 10) (by omega)
      by_cases t : n % 10 = 0
      · obtain ⟨z, m, h1, h2, h3⟩ := zeros_at f (n / 10) (by omega) (by omega)
        refine ⟨z + 1, m, ?_, h2, ?_⟩
        · rw [Nat.pow_succ, ← Nat.mul_assoc, ← h1]; omega
        · rw [e, List.map_append, List.reverse_append, List.map_singleton, List.reverse_singleton, List.singleton_append, List.takeWhile_cons, r, t, if_pos (by decide), List.length_cons, h3]
      · refine ⟨0, n, by rw [Nat.pow_zero, Nat.mul_one], t, ?_⟩
        rw [e, List.map_append, List.reverse_append, List.map_singleton, List.reverse_singleton, List.singleton_append, List.takeWhile_cons, r, if_neg (by simp; omega)]
        rfl
theorem rstrip_len (x : Str) : (Txt.rstripChars x "0").length = x.length - ((x.cps.toList).reverse.takeWhile (fun k => k == 48)).length := by
  have hp : (Str.ofString "0").cps.contains = fun k => k == 48 := by
    funext k
    have : (Str.ofString "0").cps = #[48] := by decide
    rw [this]
    simp
    rfl
  unfold Txt.rstripChars Txt.stripBy stripSame stripped
  rw [hp]
  have lo : stripLo (fun k => k == 48) false x = 0 := rfl
  have hi : stripHi (fun k => k == 48) true x 0 = x.length - ((x.cps.toList).reverse.takeWhile (fun k => k == 48)).length := rfl
  rw [lo, hi]
  split
  · next h =>
    rw [Bool.and_eq_true] at h
    have := h.2
    rw [beq_iff_eq] at this
    omega
  · unfold PySem.Builtin.Str.strSub
    show (x.cps.extract 0 _).size = _
    rw [Array.size_extract]
    have : x.cps.size = x.length := rfl
    omega
theorem text_zeros {d : Int} (h : 0 < d) : ∃ (z : Nat) (m : Int), d = m * 10 ^ z ∧ m % 10 ≠ 0 ∧ (Txt.rstripChars (Str.ofString (toString d)) "0").length + z = (Str.ofString (toString d)).length := by
  obtain ⟨n, rfl⟩ := Int.eq_ofNat_of_zero_le (Int.le_of_lt h)
  obtain ⟨z, m, h1, h2, h3⟩ := zeros_at n n (by omega) (Nat.le_refl _)
  have e : (Str.ofString (toString (n : Int))).cps.toList = (Nat.toDigits 10 n).map Char.toNat := by
    rw [Str.ofString_eq_toList]
    show List.map Char.toNat (Nat.repr n).toList = _
    simp [Nat.repr]
  refine ⟨z, m, ?_, by omega, ?_⟩
  · rw [h1]
    rw [Int.natCast_mul, Int.natCast_pow]
    rfl
  · rw [rstrip_len, e, h3]
    have le := List.takeWhile_prefix (fun k => k == 48) (l := ((Nat.toDigits 10 n).map Char.toNat).reverse)
    have l2 := le.length_le
    rw [h3, List.length_reverse, ← e] at l2
    have : (Str.ofString (toString (n : Int))).length = (Str.ofString (toString (n : Int))).cps.toList.length := by simp [Str.length]
    omega
end Mn

namespace Mn
open PySem PySem.Spec PyProof.Rows L2
/-! ### range downwards: range(i, j, -1) -/
def rngN (lo : Int) (n : Nat) : List D := (List.range n).map fun k : Nat => D.int (lo + (k : Int) * -1)
theorem rngN_yields {K : PySem.W.Frag} {H : Hp} {m : Ms} (lo : Int) (n : Nat) : Yields K (Itc lo (-1) n) (rngN lo n) H m := fun H2 m2 mo s2 i => by
  refine ⟨fun d e => ?_, fun hl => ?_⟩
  · unfold rngN at e
    rw [List.getElem?_map] at e
    by_cases lt : i < n
    · rw [List.getElem?_range lt] at e
      cases e
      refine ⟨lt, fun x H3 y => ?_⟩
      obtain ⟨e1, e2⟩ := y
      subst e1; subst e2
      exact ⟨.refl _, rep_int⟩
    · rw [List.getElem?_eq_none (by rw [List.length_range]; omega)] at e
      cases e
  · unfold rngN at hl
    rw [List.length_map, List.length_range] at hl
    exact hl
theorem rngN_at {lo : Int} {n j : Nat} {d : D} (h : (rngN lo n)[j]? = some d) : d = .int (lo - j) ∧ j < n := by
  unfold rngN at h
  rw [List.getElem?_map] at h
  by_cases lt : j < n
  · rw [List.getElem?_range lt] at h
    cases h
    refine ⟨?_, lt⟩
    exact congrArg D.int (show lo + (j : Int) * -1 = lo - j by omega)
  · rw [List.getElem?_eq_none (by rw [List.length_range]; omega)] at h
    cases h
theorem rngN_len {lo : Int} {n : Nat} : (rngN lo n).length = n := by
  unfold rngN
  rw [List.length_map, List.length_range]
def cR3 (ca : CAx) : CIx := fun E sc hc P => ca E sc hc fun ds hc1 => match ds with | [.int i, .int j, .int c] => (c = -1 ∧ i.natAbs < 2 ^ 60 ∧ j.natAbs < 2 ^ 60) ∧ P (rngN i (i - j).toNat) hc1 | _ => False
section
variable {X : Cx} {W : WX} {tg e : Expr} {ca : CAx} {pos : Pos}
theorem ci_r3 {e2 e3 : Expr} {p2 : Pos} (hm : X.mg "range" = none) (h : CA X W [e, e2, e3] ca) (hg : Gl X "range" := by rfl)
    (hs : starEach [e, e2, e3] X.env = (false, eval e X.env) :: starEach [e2, e3] X.env := by rfl) (hpl : (backTo pos (starEach [e2, e3] X.env)).any (·.1) = false := by rfl) :
    CI X W tg (.Call (.Name "range" p2) [e, e2, e3] [] pos) (cR3 ca) := ⟨pi_wk (pi_range3 hg hm h.p hs hpl) fun σ H R ⟨en, sc, hc, m, E, P, r, k, xo, fin⟩ =>
  ⟨en, sc, hc, m, E, _, r, k, xo, fun ds hc1 p vs H1 m1 x1 q => by
    split at p
    · unfold RepL at q
      obtain ⟨v, _, rfl, q1, q⟩ := q
      unfold RepL at q
      obtain ⟨v2, _, rfl, q2, q⟩ := q
      unfold RepL at q
      obtain ⟨v3, _, rfl, q3, q⟩ := q
      unfold RepL at q; unfold Rep at q1 q2 q3
      subst q; subst q1; subst q2; subst q3
      obtain ⟨⟨rfl, b1, b2⟩, p⟩ := p
      exact ⟨_, _, _, _, rfl, RgC.neg (by omega) (by omega) (by omega) (by omega), fin _ hc1 p _ H1 m1 x1 (rngN_yields _ _)⟩
    · exact p.elim⟩⟩
end
theorem e_R3 {ca : CAx} {E : XP} {sc : List Sl} {hc : CH} {P : List D → CH → Prop} : cR3 ca E sc hc P = ca E sc hc fun ds hc1 => match ds with | [.int i, .int j, .int c] => (c = -1 ∧ i.natAbs < 2 ^ 60 ∧ j.natAbs < 2 ^ 60) ∧ P (rngN i (i - j).toNat) hc1 | _ => False := rfl
end Mn

namespace Mn
open PySem PySem.Spec PyProof.Rows L2
/-! ### enumerate of a tuple or a list -/
set_option maxHeartbeats 1000000 in
theorem enum_made {z : Value} {ob : Obj} {Hq : Heap → Prop} (B : Begins z ob Hq) :
    Meets (Builtin.«enumerate.__new__» ⟨[.type "enumerate", z], []⟩) (fun _ R s => Hq s.heap ∧
      R (.ok (.ret (.ref (s.heap.push ob).objs.size))) { s with heap := (s.heap.push ob).push { cls := .type "enumerate", data := .fields #[.none, .bool false, .ref s.heap.objs.size, rawInt 0, .none, .none] } }) :=
  .of_wp fun prog w A R s y => by
    obtain ⟨hp, g, d, tk, os⟩ := s
    obtain ⟨y1, y⟩ := y
    have hsub := sub_enumerate
    have go : ∀ {A2 : Around} {E2 : Value → Shared → Prop} {Q2 : Value → Shared → Prop}, Q2 (.ref hp.objs.size) ⟨hp.push ob, g, d, tk, os⟩ → wpAny (model prog w) A2 (pyIter z) Q2 E2 ⟨hp, g, d, tk, os⟩ := fun q => B.iter prog w _ _ ⟨hp, g, d, tk, os⟩ _ y1 q
    wp_walk using go
    refine wpAny_stack_any fun st => wpAny_pure ?_
    split
    · rename_i cl _ _ _ _ _
      cases (cl == Value.type "enumerate") <;> (wp_walk using go; exact ⟨_, rfl, y⟩)
    · wp_walk using go
      exact ⟨_, rfl, y⟩
theorem enum_call {P : Program} {w : World} {A : Around} {E : Value → Shared → Prop} {s : Shared} {z : Value} {ob : Obj} {Hq : Heap → Prop} {Q : Value → Shared → Prop} (B : Begins z ob Hq) (y1 : Hq s.heap)
    (y : ∀ h2, IsEnum h2 (s.heap.objs.size + 1) s.heap.objs.size 0 .none → h2.get? s.heap.objs.size = some ob → (∀ b o, s.heap.get? b = some o → h2.get? b = some o) → Q (.ref (s.heap.objs.size + 1)) { s with heap := h2 }) :
    wpAny (model P w) A (call (.type "enumerate") [z]) Q E s := by
  refine callType_new F.called_enumerate (by decide) (F.typeCall_enumerate_1 _) (F.newCall_enumerate_1 _) (fun x => F.args_object_init_2 x _) F.entry_enumerate_new (enum_made B) ⟨y1, ?_⟩
  have sz : (s.heap.push ob).objs.size = s.heap.objs.size + 1 := Heap.size_push ..
  show _ ∧ _
  rw [sz]
  have ie : IsEnum ((s.heap.push ob).push { cls := .type "enumerate", data := .fields #[.none, .bool false, .ref s.heap.objs.size, rawInt 0, .none, .none] }) (s.heap.objs.size + 1) s.heap.objs.size 0 .none := by
    have := Heap.get?_push_size (s.heap.push ob) (o := { cls := .type "enumerate", data := .fields #[.none, .bool false, .ref s.heap.objs.size, rawInt 0, .none, .none] }) rfl
    rw [sz] at this
    exact this
  exact ⟨⟨_, ie, rfl⟩, y _ ie (Heap.get?_push_of_some _ (Heap.get?_push_size _ B.free)) fun b o x => Heap.get?_push_of_some _ (Heap.get?_push_of_some _ x)⟩
/-- the tuple at a, each item in a new pair -/
def IteT (K : PySem.W.Frag) (a : Addr) : It :=
  ⟨fun i H => ∃ (us : List V) (u : V), SqT K H a us ∧ us[i]? = some u, fun i H v H2 => ∃ N u, v = .ref N ∧ H N = none ∧ H2 = upd H N (.tup [.int (i : Nat), u]) ∧ ∀ us, SqT K H a us → us[i]? = some u, fun i H => ∃ us : List V, SqT K H a us ∧ us.length ≤ i⟩
theorem turn_enT {P : Program} {w : World} {K : PySem.W.Frag} {elts : List Expr} {kk : Nat} {tpos : Pos} (a e it : Addr) (nai : a ≠ it) (nae : a ≠ e) :
    Turn P w K (.Tuple elts kk tpos) (IteT K a) [e, it] e (fun i h => (∃ old, IsEnum h e it ((i : Nat) : Int) old) ∧ h.IsTupleIter it a i ∧ e ≠ it) where
  mem := List.mem_cons_self ..
  obj := fun i h st b hb => by
    obtain ⟨⟨old, ie⟩, ⟨o, ho, hcl, hdt⟩, _⟩ := st
    rcases List.mem_cons.mp hb with rfl | hb
    · exact ⟨_, ie, fun v q => nomatch q⟩
    · cases List.mem_singleton.mp hb
      exact ⟨o, ho, fun v q => by rw [hdt] at q; cases q⟩
  keep := fun i h h2 st k => by
    obtain ⟨⟨old, ie⟩, hi, ne⟩ := st
    exact ⟨⟨old, k e (List.mem_cons_self ..) _ ie⟩, hi.at fun o q => k it (List.mem_cons_of_mem _ (List.mem_singleton_self _)) o q, ne⟩
  item := by
    intro X eP ew eK cal i pins s σ H E I apart st gd
    subst eP ew eK
    obtain ⟨⟨old, ie⟩, hit, ne⟩ := st
    obtain ⟨us, u, hq, hu⟩ := gd
    obtain ⟨its, rv, p, hz⟩ := I.tuple hq
    obtain ⟨y, hy, ry⟩ := rv.get hu
    have le : e < s.heap.objs.size := Heap.lt_size ie
    have li : it < s.heap.objs.size := by obtain ⟨_, q, _⟩ := hit; exact Heap.lt_size q
    have tup : s.heap.IsTuple a its.toArray := p
    have D := Draws.tuple (prog := X.prog) (w := X.w) (A := X.A.in1) (I.ok.hd cal) it a nai its.toArray
    have il : i < its.toArray.size := by
      have := (List.getElem?_eq_some_iff.mp hy).1
      simpa using this
    refine wpAny_pyNext_enum_itemD D ie ⟨hit, tup⟩ il ne ?_ fun x h2 tk hx out st2 hN hsz hk => ?_
    · intro q
      rcases List.mem_cons.mp q with q | q
      · exact ne q
      · exact nae (List.mem_singleton.mp q).symm
    obtain rfl : x = y := by
      have hx : its.toArray[i]? = some x := hx
      rw [List.getElem?_toArray, hy] at hx
      exact (Option.some.inj hx).symm
    refine ⟨_, rfl, wpAny_letOwnedTupleGo_enum (s := { s with heap := h2, toks := tk + 1 }) out fun h3 ie3 sb => ?_⟩
    have hN3 : h3.get? s.heap.objs.size = some { cls := .type "tuple", data := .seq #[.int i tk, x] } := (sb.2 _ (Nat.ne_of_gt le)).trans hN
    have new : ObjOk X.prog X.w (upd H s.heap.objs.size (.tup [.int (i : Nat), u])) h3 s.heap.objs.size (.tup [.int (i : Nat), u]) :=
      ⟨show 2 ≤ sizeLine by decide, [.int i tk, x], .cons ⟨_, rfl⟩ (.cons ry .nil), ⟨_, hN3, rfl, _, rfl⟩⟩
    have I1 : Inv X pins σ (upd H s.heap.objs.size (.tup [.int (i : Nat), u])) { s with heap := h3, toks := tk + 1 } :=
      I.turnedNew (t' := tk + 1) (ch := [e, it]) (fun b ob hb q => (sb.2 b (fun z => hb (z ▸ List.mem_cons_self ..))).trans (hk b ob (fun z => hb (z ▸ List.mem_cons_self ..)) (fun z => hb (z ▸ List.mem_cons_of_mem _ (List.mem_singleton_self _))) q)) apart (Nat.le_refl _) new
    have sit := st2.1.at fun o q => (sb.2 it (Ne.symm ne)).trans q
    refine ⟨.ref s.heap.objs.size, _, I1, rfl, ⟨_, u, rfl, I.hok.fresh (Nat.le_refl _), rfl, fun ys hys => by rw [I.tuple_inj hys hq]; exact hu⟩, ⟨⟨x, ?_⟩, sit, ne⟩, fun b hb => ?_⟩
    · rw [show ((i + 1 : Nat) : Int) = (i : Int) + 1 by omega]
      exact ie3
    · have lb : b < s.heap.objs.size := by
        rcases List.mem_cons.mp hb with rfl | hb
        · exact le
        · cases List.mem_singleton.mp hb
          exact li
      exact (upd_ne (Nat.ne_of_lt lb)).trans (apart b hb).1
  done := by
    intro X eP ew eK cal i pins s σ H E I apart st gd
    subst eP ew eK
    obtain ⟨⟨old, ie⟩, hit, ne⟩ := st
    obtain ⟨us, hq, hu⟩ := gd
    obtain ⟨its, rv, p, hz⟩ := I.tuple hq
    have tup : s.heap.IsTuple a its.toArray := p
    obtain ⟨f0, f1, f2, f3, f4, f5⟩ := apart it (List.mem_cons_of_mem _ (List.mem_singleton_self _))
    have ll := rv.length
    have hT : s.TypeIs (.ref e) "enumerate" := ⟨_, ie, rfl⟩
    unfold pyNext
    refine wpAny_bind (wpAny_attempt (wpAny_callSpecial?_slot (name := Str.ofString "__next__") hT F.slot_enumerate_next
      (wpAny_call_entry F.slot_enumerate_next hT F.entry_enumerate_next ?_ (F.args_enumerate_next_1 _))))
    show wpAny _ _ (field (.ref e) 2 >>= _) _ _ _
    refine wpAny_bind (wpAny_field ie rfl (x := .ref it) rfl ?_)
    refine wpAny_bind (wpAny_nextOf_tuple_end (A := X.A.in1) (I.ok.hd cal) hit tup (by rw [List.getElem?_toArray]; exact List.getElem?_eq_none (by omega)) fun h2 x eb hx => ?_)
    obtain ⟨o, ho, hcl⟩ := hx
    refine wpAny_bind (wpAny_isInstance (T := "StopIteration") (b := true) ⟨o, ho, hcl⟩ isSubtype_stop ?_)
    exact wpAny_pure ⟨rfl, I.turned (t' := s.toks) (fun b o hb q => eb b o hb q) f0 f1 f3 f4 f5⟩
  self := fun A i s Q E st y => by
    obtain ⟨⟨_, ie⟩, _⟩ := st
    exact wpAny_pyIter_enum ie y
def iEnU (K : PySem.W.Frag) (ta : TA) : TI := fun σ H R => ta σ H fun vs H1 => ∃ a, vs = [.ref a] ∧ ((∃ xs, SqL K H1 a xs ∧ R (Ite K a) H1) ∨ (∃ xs, SqT K H1 a xs ∧ R (IteT K a) H1))
theorem pi_enU {X : Cx} {e : Expr} {ta : TA} {p pos tpos : Pos} {elts : List Expr} {kk : Nat} (hg : Gl X "enumerate") (hm : X.mg "enumerate" = none) (ha : PA X [e] ta) (hs : starEach [e] X.env = [(false, eval e X.env)] := by rfl) :
    PI X (.Tuple elts kk tpos) (.Call (.Name "enumerate" p) [e] [] pos) (iEnU X.K ta) := by
  refine ⟨fun pins s σ H R I y => ?_⟩
  refine Call_ (ld_blt I hg hm boot_enumerate (PyProof.Rows.callWith_type1 (thn (ha.run pos pins s σ H _ I y) fun us s1 ⟨vs, H1, I1, r1, q1⟩ => ?_) hs rfl))
  obtain ⟨a, ev, q⟩ := q1
  subst ev
  cases r1 with
  | cons r rr =>
    cases rr
    cases r
    have ap : ∀ b ∈ [s1.heap.objs.size + 1, s1.heap.objs.size], s1.heap.objs.size ≤ b := fun b hb => by
      rcases List.mem_cons.mp hb with rfl | hb
      · exact Nat.le_add_right _ _
      · cases List.mem_singleton.mp hb
        exact Nat.le_refl _
    rcases q with ⟨xs, hq, q⟩ | ⟨xs, hq, q⟩
    · obtain ⟨its, rv, pl, hz⟩ := I1.list hq
      have pl := pl.isList
      refine enum_call (begins_list a its.toArray) pl fun h2 ie hit hk => wpAny_pyIter_enum ie ?_
      have I2 : Inv X pins σ H1 { s1 with heap := h2 } := I1.kept (t' := s1.toks) hk
      exact ⟨s1.heap.objs.size + 1, [s1.heap.objs.size + 1, s1.heap.objs.size], _, _, H1, rfl, I2, turn_enum a (s1.heap.objs.size + 1) s1.heap.objs.size, ⟨⟨.none, ie⟩, ⟨_, hit, rfl, rfl⟩, Nat.succ_ne_self _⟩, fun b hb => I1.fpOk (ap b hb) (I1.hok.fresh (ap b hb)), q⟩
    · obtain ⟨its, rv, pl, hz⟩ := I1.tuple hq
      have tup : s1.heap.IsTuple a its.toArray := pl
      have la : a < s1.heap.objs.size := by obtain ⟨_, z, _⟩ := tup; exact Heap.lt_size z
      refine enum_call (begins_tuple a its.toArray) tup fun h2 ie hit hk => wpAny_pyIter_enum ie ?_
      have I2 : Inv X pins σ H1 { s1 with heap := h2 } := I1.kept (t' := s1.toks) hk
      exact ⟨s1.heap.objs.size + 1, [s1.heap.objs.size + 1, s1.heap.objs.size], _, _, H1, rfl, I2, turn_enT a (s1.heap.objs.size + 1) s1.heap.objs.size (Nat.ne_of_lt la) (Nat.ne_of_lt (Nat.lt_succ_of_lt la)), ⟨⟨.none, ie⟩, ⟨_, hit, rfl, rfl⟩, Nat.succ_ne_self _⟩, fun b hb => I1.fpOk (ap b hb) (I1.hok.fresh (ap b hb)), q⟩
def enuL (xs : List D) : List D := xs.mapIdx fun i x => D.tup [.int (i : Nat), x]
theorem enu_at {xs : List D} {i : Nat} {d : D} (h : (enuL xs)[i]? = some d) : ∃ x, xs[i]? = some x ∧ d = .tup [.int (i : Nat), x] := by
  unfold enuL at h
  rw [List.getElem?_mapIdx] at h
  cases ex : xs[i]? with
  | none => rw [ex] at h; cases h
  | some x => rw [ex] at h; cases h; exact ⟨x, rfl, rfl⟩
theorem enu_len {xs : List D} : (enuL xs).length = xs.length := List.length_mapIdx
def enuP (ds : List D) (P : List D → CH → Prop) (hc : CH) : Prop := match ds with
  | [.lst xs] => P (enuL xs) hc
  | [.tup xs] => P (enuL xs) hc
  | _ => False
def cEnum (c1 : CEx) : CIx := fun E sc hc P => cCons c1 cNil E sc hc fun ds hc1 => enuP ds P hc1
theorem ci_enum {X : Cx} {W : WX} {elts : List Expr} {kk : Nat} {tpos p pos : Pos} {e : Expr} {c1 : CEx} (hm : X.mg "enumerate" = none) (h1 : CE X W e c1) (hg : Gl X "enumerate" := by rfl) (hs : starEach [e] X.env = (false, eval e X.env) :: starEach [] X.env := by rfl) (hs1 : starEach [e] X.env = [(false, eval e X.env)] := by rfl) :
    CI X W (.Tuple elts kk tpos) (.Call (.Name "enumerate" p) [e] [] pos) (cEnum c1) := ⟨pi_wk (pi_enU hg hm (ca_cons h1 ca_nil hs).p hs1) fun σ H R ⟨en, sc, hc, m, E, P, r, k, xo, fin⟩ =>
  ⟨en, sc, hc, m, E, fun ds hc1 => enuP ds P hc1, r, k, xo, fun ds hc1 pz vs H1 m1 x1 q => by
    have mu1 := (r.call x1).mu
    have pz : enuP ds P hc1 := pz
    unfold enuP at pz
    split at pz
    · rename_i xs
      unfold RepL at q
      obtain ⟨v1, r1, rfl, qa, q⟩ := q
      unfold RepL at q
      subst q
      unfold Rep at qa
      obtain ⟨a, us, rfl, na, ha, la⟩ := qa
      refine ⟨a, rfl, .inl ⟨us, .of ha, fin _ hc1 pz _ H1 m1 x1 fun H2 m2 mo s2 i => ⟨fun d ed => ?_, fun hl => ?_⟩⟩⟩
      · obtain ⟨x, ex, rfl⟩ := enu_at ed
        obtain ⟨u, eu, ru⟩ := la.get ex
        have hqa := SqL.of (K := X.K) (s2.keep _ _ ha trivial na)
        refine ⟨⟨us, u, hqa, eu⟩, fun x3 H3 ⟨T, u', e3, nT, eH, g1⟩ => ?_⟩
        have t1 := g1 us hqa
        rw [eu] at t1; cases t1
        subst e3
        subst eH
        exact ⟨same_upd nT, rep_tup mo nT (RepL.cons rep_int (RepL.cons (Rep.mono mu1 s2 _ _ ru) RepL.nil))⟩
      · refine ⟨us, .of (s2.keep _ _ ha trivial na), ?_⟩
        rw [← la.length]
        rw [enu_len] at hl
        exact hl
    · rename_i xs
      unfold RepL at q
      obtain ⟨v1, r1, rfl, qa, q⟩ := q
      unfold RepL at q
      subst q
      unfold Rep at qa
      obtain ⟨a, us, rfl, ha, la⟩ := qa
      refine ⟨a, rfl, .inr ⟨us, ha, fin _ hc1 pz _ H1 m1 x1 fun H2 m2 mo s2 i => ⟨fun d ed => ?_, fun hl => ?_⟩⟩⟩
      · obtain ⟨x, ex, rfl⟩ := enu_at ed
        obtain ⟨u, eu, ru⟩ := la.get ex
        have hqa := sqt_step mu1 s2 ha
        refine ⟨⟨us, u, hqa, eu⟩, fun x3 H3 ⟨T, u', e3, nT, eH, g1⟩ => ?_⟩
        have t1 := g1 us hqa
        rw [eu] at t1; cases t1
        subst e3
        subst eH
        exact ⟨same_upd nT, rep_tup mo nT (RepL.cons rep_int (RepL.cons (Rep.mono mu1 s2 _ _ ru) RepL.nil))⟩
      · refine ⟨us, sqt_step mu1 s2 ha, ?_⟩
        rw [← la.length]
        rw [enu_len] at hl
        exact hl
    · exact pz.elim⟩⟩
theorem e_Enum {c1 : CEx} {E : XP} {sc : List Sl} {hc : CH} {P : List D → CH → Prop} : cEnum c1 E sc hc P = cCons c1 cNil E sc hc fun ds hc1 => enuP ds P hc1 := rfl
theorem o_enL {xs : List D} {hc : CH} {P : List D → CH → Prop} : enuP [.lst xs] P hc = P (enuL xs) hc := rfl
theorem o_enT {xs : List D} {hc : CH} {P : List D → CH → Prop} : enuP [.tup xs] P hc = P (enuL xs) hc := rfl
end Mn

namespace Mn
open PySem PySem.Spec PyProof.Rows L2
/-! ### sorted(set(a list of ints)) -/
/-- a set just made -/
abbrev nuS (w : World) : Obj := { cls := .type "set", dict := none, data := .set #[] 0 (.fresh 0 0 (!w.params.followText "set-order")) }
section
variable {P : Program} {w : World} {A : Around} {E : Value → Shared → Prop} {s : Shared}
set_option maxHeartbeats 3200000 in
theorem set_of_list {l : Addr} {its : Array Value} (ns : List Int) {Q : Value → Shared → Prop} (calm : A.handled = none) (hl : s.heap.IsList l its) (hit : IntsAre its.toList ns) (hb : ns.length + 1 < scanBound)
    (y : ∀ (h2 : Heap) (tk c : Nat), SetR w h2 s.heap.objs.size (fun j => decide (j ∈ ns)) c → c ≤ ns.length → (∀ b o, s.heap.get? b = some o → h2.get? b = some o) → Q (.ref s.heap.objs.size) { s with heap := h2, toks := tk }) :
    wpAny (model P w) A (call (.type "set") [.ref l]) Q E s := by
  have sz : its.size = ns.length := by have z := IntsAre.length hit; rw [Array.length_toList] at z; exact z
  obtain ⟨c0, tl0, hmro⟩ := F.called_set.mro
  have made0 := F.called_set.made; have sub0 := F.called_set.sub
  refine wpAny_call (codeAny_of_tree ?_); show wpAny _ _ (callAny (.type "set") _) _ _ _
  refine wpAny_pure ⟨Code.quiet_builtin _ (by decide +kernel), codeAny_builtin F.entry_type_call ?_⟩; rw [Around.under_plain (weight_type_call_type "set" [.ref l] []) rfl]
  have g1 := F.called_set.notType; have g2 := F.called_set.canCreate; have g3 := F.typeCall_set_1 (.ref l)
  repeat (any_goals (first | assumption | wp_step))
  refine codeAny_mono (code_set_led1 (.ref l) (E := E) (Q₁ := fun ob t1 => ob = .ref s.heap.objs.size ∧ t1 = { s with heap := s.heap.push (nuS w) }) ⟨rfl, rfl⟩) fun r t1 hr => ?_
  cases r with
  | error e => exact hr
  | ok fl =>
    cases fl with
    | ret ob =>
      obtain ⟨rfl, rfl⟩ := hr
      have gS : (s.heap.push (nuS w)).get? s.heap.objs.size = some (nuS w) := Heap.get?_push_size _ rfl
      have gT : Shared.TypeIs { s with heap := s.heap.push (nuS w) } (.ref s.heap.objs.size) "set" := ⟨_, gS, rfl⟩
      have gi := F.called_set.init.lookup; have gb := F.called_set.init.bind (.ref s.heap.objs.size)
      repeat (any_goals (first | assumption | wp_step))
      refine codeAny_mono (codeAny_call_builtin (R := wants (fun r t2 => r = .none ∧ ∃ h2 tk c, t2 = { s with heap := h2, toks := tk } ∧ SetR w h2 s.heap.objs.size (fun j => decide (j ∈ ns)) c ∧ c ≤ ns.length ∧ (∀ b o, s.heap.get? b = some o → h2.get? b = some o)) E) F.called_set.init.plain F.entry_set_init (check_set_init_1 gT ?_)) fun r2 t2 hr2 => ?_
      · obtain ⟨ol, hol, hcl, nl, hdl⟩ := hl; obtain ⟨oc, od, oda, osl⟩ := ol
        simp only at hcl hdl
        subst hcl; subst hdl
        have hol1 : (s.heap.push (nuS w)).get? l = some { cls := .type "list", dict := od, data := .seq its nl, slots := osl } := Heap.get?_push_of_some _ hol
        have hs1 := F.sub_list_set; have hs2 := F.sub_list_frozenset
        have nd : (Value.type "list" == Value.type "dict") = false := by decide
        have hl1 : (s.heap.push (nuS w)).IsList l its := ⟨_, hol1, rfl, nl, rfl⟩
        unfold Builtin.«set.__init__» noKeywords Builtin.Frozenset.updateFrom
        generalize hPI : pyIter = PI; wp_walk; subst hPI
        refine wpAny_pyIter_list hl1 (wpAny_bind (wpAny_runValue ?_))
        have lS : l < s.heap.objs.size := Heap.lt_size hol
        have c3 : A.in1.in1.in1.handled = none := by simp [calm]
        have zz : (s.heap.push (nuS w)).objs.size = s.heap.objs.size + 1 := Heap.size_push ..
        have nI : l ≠ (s.heap.push (nuS w)).objs.size := by rw [zz]; exact Nat.ne_of_lt (Nat.lt_succ_of_lt lS)
        have nS : s.heap.objs.size ∉ [(s.heap.push (nuS w)).objs.size, l] := by
          rw [zz]; intro z
          rcases List.mem_cons.mp z with z | z
          · exact Nat.ne_of_lt (Nat.lt_succ_self _) z
          · exact Nat.ne_of_gt lS (List.mem_singleton.mp z)
        have val : ∀ (i : Nat) (v : Value), its[i]? = some v → ∃ k t, ns[i]? = some k ∧ v = .int k t := fun i v hv => by
          have hi : i < ns.length := by rw [← sz]; exact (Array.getElem?_eq_some_iff.mp hv).1
          obtain ⟨t, e⟩ := PyProof.Rows.IntsAre.int_at hit i v (by rw [Array.getElem?_toList]; exact hv)
          exact ⟨ns[i], t, List.getElem?_eq_getElem hi, by rw [e, List.getD_eq_getElem?_getD, List.getElem?_eq_getElem hi] <;> rfl⟩
        refine set_update_ints ((Walks.list c3 _ l nI its).toS) s.heap.objs.size nS ns sz hb val (its.size - 0) 0 _ (by omega) (Nat.zero_le _) ⟨⟨_, Heap.get?_push_size _ rfl, rfl, rfl⟩, (hl1.push _)⟩ ⟨0, Nat.le_refl 0, setR_new_at (Heap.get?_push_of_some _ gS)⟩ fun s2 c2 hm hc2 hS2 => ?_
        obtain ⟨h2, gn2, d2, tk2, os2⟩ := s2
        have eg : gn2 = s.gens := hm.gens; have ed : d2 = s.drawn := hm.drawn; have eo : os2 = s.os := hm.os
        subst eg; subst ed; subst eo
        show wpAny _ _ _ _ _ _
        refine wpAny_pure ?_
        show wpAny _ _ (ret Value.none) _ _ _
        rw [sz] at hc2
        refine wpAny_pure ⟨rfl, h2, tk2, c2, rfl, hS2, hc2, fun b o e => ?_⟩
        have b0 : b < s.heap.objs.size := Heap.lt_size e
        refine hm.heap b o (fun z => ?_) (Heap.get?_push_of_some _ (Heap.get?_push_of_some _ e))
        rcases List.mem_cons.mp z with z | z
        · exact Nat.ne_of_lt b0 z
        · rw [List.mem_singleton] at z
          have z : b = (s.heap.push (nuS w)).objs.size := z
          rw [zz] at z
          exact Nat.ne_of_lt (Nat.lt_succ_of_lt b0) z
      · cases r2 with
        | error e => exact hr2
        | ok fl2 =>
          cases fl2 with
          | ret r =>
            obtain ⟨rfl, h2, tk, c, rfl, hS, hc, hk⟩ := hr2
            repeat (any_goals (first | assumption | wp_step))
            exact y _ _ _ hS hc hk
          | _ => exact hr2.elim
    | _ => exact hr.elim
theorem sorted_of_set {a : Addr} {S : Int → Bool} {n : Nat} {Q : Value → Shared → Prop} (R : SetR w s.heap a S n) (calm : A.handled = none) (n1 : n ≤ sizeLine)
    (y : ∀ t1 p (out : Array Value) (c : Nat) (ns : List Int), (∀ b o, s.heap.get? b = some o → t1.heap.get? b = some o) → t1.gens = s.gens → t1.os = s.os → s.heap.objs.size ≤ p → t1.heap.get? p = some (seqObj "list" out c) → IntsAre out.toList ns → ns.Pairwise (· < ·) → (∀ k, k ∈ ns ↔ S k = true) → ns.length = n → Q (.ref p) t1) :
    wpAny (model P w) A (call (.builtin "sorted") [.ref a]) Q E s := by
  obtain ⟨o, es, ep, t, ho, hex, hd, g, nd, hm, hb, hf, hn, hr, hl⟩ := R
  refine Calls.call_function_entry kind_sorted plain_sorted entry_sorted (args_sorted1 _) ?_
  unfold Builtin.«sorted»
  refine wpAny_bind (m := checkCount "sorted" 1 1 _) (wpAny_pure (wpAny_bind (collect_set (A := A.in1) calm ⟨o, ho, hex.1, hd⟩ hf hb hr hl fun t1 vs k1 hz gg oo pm => ?_)))
  have vl : vs.length = n := by rw [pm.length_eq, List.length_map, Array.length_toList]; exact hn
  have vi : IntsAre vs (vs.map Builtin.Re.reRawOf) := ints_of vs fun v hv => by
    obtain ⟨e, he, q⟩ := List.mem_map.mp (pm.mem_iff.mp hv); obtain ⟨k, tk, e1, _⟩ := g e he
    exact ⟨k, tk, by rw [← q]; exact e1⟩
  have pk : (vs.map Builtin.Re.reRawOf).Perm (es.toList.map keyOf) := by have q := pm.map Builtin.Re.reRawOf; rw [List.map_map] at q; exact q
  refine wpAny_bind (wpAny_newList ?_ (by rw [vl]; exact n1))
  have gL : (t1.heap.push (seqObj "list" vs.toArray 0)).get? t1.heap.objs.size = some (seqObj "list" vs.toArray 0) := Heap.get?_push_size _ rfl
  refine wpAny_bind (wpAny_holding (wpAny_call_entry slot_list_sort ⟨_, gL, rfl⟩ entry_list_sort (list_sort_treeAny gL vi (by rw [vl]; exact n1) fun out ns2 a1 a2 a3 => ⟨_, rfl, ?_⟩) (args_list_sort _)))
  obtain ⟨c, hc⟩ := sortedHeap_at (vs := vs) (out := out) gL
  have pn : ns2.Perm (es.toList.map keyOf) := a2.trans pk
  refine wpAny_pure ⟨_, rfl, y _ t1.heap.objs.size out c ns2 (fun b u e => ?_) gg oo hz hc a1 (lt_of_le_nodup ns2 a3 (pn.nodup_iff.mpr nd)) (fun k => by rw [pn.mem_iff, ← hm k]) (by rw [pn.length_eq, List.length_map, Array.length_toList]; exact hn)⟩
  have q := k1 b u e; have lt := Heap.lt_size q
  show (sortedHeap (t1.heap.push (seqObj "list" vs.toArray 0)) t1.heap.objs.size vs out).get? b = some u
  rw [sortedHeap_old (Nat.ne_of_lt lt) (by rw [size_push']; exact Nat.lt_succ_of_lt lt)]; exact Heap.get?_push_of_some _ q
end
/-- sorted(set(e)) -/
def tSrtS (K : PySem.W.Frag) (ta : TE) : TE := fun σ H Q => ta σ H fun x H1 => ∃ (l : Addr) (ns : List Int), x = V.ref l ∧ SqL K H1 l (ns.map V.int) ∧ ns.length ≤ 4000 ∧ ∀ (ms : List Int) (p : Addr), ms.Pairwise (· < ·) → (∀ k, k ∈ ms ↔ k ∈ ns) → ms.length ≤ ns.length → H1 p = none → Q (.ref p) (upd H1 p (.lst (ms.map V.int)))
theorem pe_srtS {X : Cx} {a : Expr} {ta : TE} {p p2 q pos : Pos} (hc : X.calm = true) (hg : Gl X "sorted") (hm : X.mg "sorted" = none) (hg2 : Gl X "set") (hm2 : X.mg "set" = none) (ha : PE X a ta)
    (na : starEach [a] X.env = (false, eval a X.env) :: starEach [] X.env := by rfl) (nb : starEach [.Call (.Name "set" p2) [a] [] q] X.env = (false, eval (.Call (.Name "set" p2) [a] [] q) X.env) :: starEach [] X.env := by rfl) :
    PE X (.Call (.Name "sorted" p) [.Call (.Name "set" p2) [a] [] q] [] pos) (tSrtS X.K ta) := by
  refine ⟨fun pins s σ H Q I y => ?_⟩
  refine Call_ (ld_blt I hg hm PyProof.Rows.boot_sorted ?_)
  refine PyProof.Rows.callWith_builtin1 (PyProof.Rows.args_cons ?_ nb) nb rfl
  refine Call_ (ld_blt I hg2 hm2 PyProof.Rows.boot_set ?_)
  refine PyProof.Rows.callWith_type1 (PyProof.Rows.args_cons (thn (ha.run pins s σ H _ I y) fun v s1 ⟨x, H1, I1, r1, q1⟩ => PyProof.Rows.args_nil ?_) na) na rfl
  obtain ⟨l, ns, rfl, hq, h1, q1⟩ := q1
  cases r1
  obtain ⟨its, r, pl, hz⟩ := I1.list hq
  have hd := I1.ok.hd hc
  refine set_of_list ns hd pl.isList (by simpa using r.ints) (by unfold scanBound; omega) fun h2 tk c R1 hcn hk => PyProof.Rows.args_nil ?_
  have I2 : Inv X pins σ H1 { s1 with heap := h2, toks := tk } := I1.kept hk
  refine sorted_of_set R1 hd (by rw [sizeLine_eq]; omega) fun t1 p out c2 ms k1 g1 o1 hp hg3 hi hs hme hle => ?_
  have ml : (ms.map V.int).length ≤ sizeLine := by rw [List.length_map, hle, sizeLine_eq]; omega
  have hp1 : s1.heap.objs.size ≤ p := Nat.le_trans (Nat.le_of_lt R1.lt) hp
  have k0 : ∀ b u, s1.heap.get? b = some u → t1.heap.get? b = some u := fun b u e => k1 b u (hk b u e)
  have nn : H1 p = none := I1.hok.fresh hp1
  have J : Inv X pins σ (upd H1 p (.lst (ms.map V.int))) { s1 with heap := t1.heap, gens := t1.gens, drawn := t1.drawn, toks := t1.toks } :=
    I1.call (ch := []) (Un.laid k0 hp1 nn) (I1.hok.laid k0 hp1 ⟨ml, out.toList, c2, vals_of_ints hi, hg3⟩) (by rw [g1]; exact I1.bare) (fun _ z => nomatch z)
  have e : t1 = { s1 with heap := t1.heap, gens := t1.gens, drawn := t1.drawn, toks := t1.toks } := by cases t1; cases s1; cases o1; rfl
  rw [e]
  exact ⟨.ref p, _, J, rfl, q1 ms p hs (fun k => by rw [hme k, decide_eq_true_eq]) (by omega) nn⟩
/-- in clean data -/
def cSrtS (c1 : CEx) : CEx := fun E sc hc P => c1 E sc hc fun d hc1 => match d with
  | .lst xs => ∃ ns : List Int, xs = ns.map D.int ∧ ns.length ≤ 4000 ∧ ∀ ms : List Int, ms.Pairwise (· < ·) → (∀ k, k ∈ ms ↔ k ∈ ns) → ms.length ≤ ns.length → P (.lst (ms.map D.int)) hc1
  | _ => False
theorem repL_ints {K : PySem.W.Frag} {H : Hp} {m : Ms} : ∀ ns : List Int, RepL K H m (ns.map D.int) (ns.map V.int)
  | [] => RepL.nil
  | _ :: ns => RepL.cons rep_int (repL_ints ns)
theorem ints_rep {K : PySem.W.Frag} {H : Hp} {m : Ms} : ∀ {ns : List Int} {vs : List V}, RepL K H m (ns.map D.int) vs → vs = ns.map V.int
  | [], vs, h => by
    rw [List.map_nil] at h
    unfold RepL at h
    exact h
  | n :: ns, vs, h => by
    rw [List.map_cons] at h
    unfold RepL at h
    obtain ⟨v, r, rfl, a, b⟩ := h
    unfold Rep at a
    rw [a, ints_rep b]
    rfl
theorem ce_srtS {X : Cx} {W : WX} {e : Expr} {ca : CEx} {p p2 pos pos2 : Pos} (hc : X.calm = true) (hl : X.mg "sorted" = none) (hr : X.mg "set" = none) (h : CE X W e ca) (hg : Gl X "sorted" := by rfl) (hg2 : Gl X "set" := by rfl) (na : starEach [e] X.env = (false, eval e X.env) :: starEach [] X.env := by rfl)
    (nb : starEach [.Call (.Name "set" p2) [e] [] pos2] X.env = (false, eval (.Call (.Name "set" p2) [e] [] pos2) X.env) :: starEach [] X.env := by rfl) : CE X W (.Call (.Name "sorted" p) [.Call (.Name "set" p2) [e] [] pos2] [] pos) (cSrtS ca) :=
  ⟨pe_wk (pe_srtS hc hg hl hg2 hr h.p na nb) fun σ H Q ⟨en, sc, hc, m, E, P, r, k, xo, fin⟩ =>
    ⟨en, sc, hc, m, E, _, r, k, xo, fun d hc1 pp v H1 m1 x1 q => by
      cases d <;> try exact pp.elim
      rename_i xs
      obtain ⟨ns, rfl, nl, pp⟩ := pp
      unfold Rep at q
      obtain ⟨a, us, rfl, nna, ha, la⟩ := q
      cases ints_rep la
      exact ⟨a, ns, rfl, .of ha, nl, fun ms p hs hme hle np => fin _ hc1 (pp ms hs hme hle) _ _ m1 (x1.trans (Ex.same x1.toWd (same_upd np))) (rep_lst (r.call x1).mu np (repL_ints _))⟩⟩⟩
theorem e_SrtS {c1 : CEx} {E : XP} {sc : List Sl} {hc : CH} {P : D → CH → Prop} : cSrtS c1 E sc hc P = c1 E sc hc fun d hc1 => match d with
  | .lst xs => ∃ ns : List Int, xs = ns.map D.int ∧ ns.length ≤ 4000 ∧ ∀ ms : List Int, ms.Pairwise (· < ·) → (∀ k, k ∈ ms ↔ k ∈ ns) → ms.length ≤ ns.length → P (.lst (ms.map D.int)) hc1
  | _ => False := rfl
end Mn

namespace Mn
open PySem PySem.Spec PyProof.Rows L2
/-! ### all(a list of truths) -/
section
variable {X : Cx}
theorem repl_bls_of {K : PySem.W.Frag} {H : Hp} {m : Ms} : ∀ {ns : List Bool} {vs : List V}, RepL K H m (ns.map D.bl) vs → vs = ns.map V.bl
  | [], vs, h => by unfold List.map RepL at h; exact h
  | n :: ns, vs, h => by
    unfold List.map RepL at h
    obtain ⟨v, r, rfl, h1, h2⟩ := h
    unfold Rep at h1
    rw [h1, repl_bls_of h2]
    rfl
theorem rep_blv {K : PySem.W.Frag} {H : Hp} {m : Ms} {b : Bool} : Rep K H m (.bl b) (.bl b) := by unfold Rep; rfl
def allD : On := fun ds hc P => match ds with
  | [.lst xs] => ∃ ns : List Bool, xs = ns.map D.bl ∧ P (.bl (ns.all id))
  | _ => False
theorem bf_all (hc : X.calm = true) : CallR X (.builtin "all") (LVn X.K allD) := by
  intro pins s σ H xs us Q I r h
  obtain ⟨hc', m, ds, P, w, h1, f, fin⟩ := h
  unfold allD at f
  split at f
  · obtain ⟨x, rfl, k1⟩ := wl1 h1
    unfold RepW at k1
    obtain ⟨p, vs, rfl, q, rl⟩ := k1
    obtain ⟨ns, rfl, pd⟩ := f
    rw [repl_bls_of rl] at q
    exact cr_all hc pins s σ H _ us Q I r ⟨p, ns, rfl, .of q, fin _ pd _ _ (.refl H) rep_blv⟩
  · exact f.elim
theorem o_all1 {hc : CH} {P : D → Prop} {xs : List D} : allD [.lst xs] hc P = ∃ ns : List Bool, xs = ns.map D.bl ∧ P (.bl (ns.all id)) := rfl
end
end Mn

namespace Mn
open PySem PySem.Spec PyProof.Rows L2
/-! ### texts: a text times a number, a sign in a text -/
def repS (x : Str) (n : Int) : Str := ⟨(List.replicate n.toNat x.cps.toList).flatten.toArray⟩
theorem rep_fold : ∀ (k : Nat) (a acc : Array Nat), (List.replicate k a).foldl (· ++ ·) acc = (acc.toList ++ (List.replicate k a.toList).flatten).toArray
  | 0, a, acc => by simp
  | k + 1, a, acc => by
    rw [List.replicate_succ, List.foldl_cons, rep_fold k a (acc ++ a), List.replicate_succ, List.flatten_cons, Array.toList_append, List.append_assoc]
theorem repS_fold {x : Str} {n : Int} : repS x n = ⟨(List.replicate n.toNat x.cps).foldl (· ++ ·) #[]⟩ := by
  rw [rep_fold]
  rfl
def mulTD : O2
  | .str x, .int n, _, P => (0 ≤ n ∧ n ≤ 1000 ∧ 0 < x.length ∧ x.length ≤ 1000) ∧ P (.str (repS x n))
  | _, _, _, _ => False
section
variable {X : Cx}
theorem op_mulTD : OpR X (binaryOp .Mult) (LV2 X.K mulTD) := by
  intro pins s σ H x y v u Q I rx ry h
  obtain ⟨hc, m, dx, dy, P, w, h1, h2, f, fin⟩ := h
  unfold mulTD at f
  split at f
  · rename_i z n
    unfold RepW Rep at h1 h2
    subst h1; subst h2
    obtain ⟨⟨n0, n1, l0, l1⟩, k⟩ := f
    obtain ⟨t, rfl⟩ := rx
    obtain ⟨t', rfl⟩ := ry
    have n2 : z.length * n.toNat ≤ 1000 * 1000 := Nat.mul_le_mul l1 (by omega)
    have fz := fin _ k _ _ (.refl H) rep_str
    refine PySem.P.mul_str (by rw [decide_eq_false (by omega), decide_eq_false (by omega)]; rfl) (fun h _ => ?_) (fun _ _ => ?_) ?_
    · have h3 : (2 ^ 63 - 1) / 1000 ≤ (2 ^ 63 - 1) / n := by
        have a : (2 ^ 63 - 1 : Int) / 1000 * n ≤ 2 ^ 63 - 1 := by
          have b : (2 ^ 63 - 1 : Int) / 1000 * n ≤ (2 ^ 63 - 1) / 1000 * 1000 := Int.mul_le_mul_of_nonneg_left n1 (by decide)
          omega
        exact (Int.le_ediv_iff_mul_le (by omega)).mpr a
      omega
    · unfold Builtin.Str.tooLong
      rw [decide_eq_false]
      rw [sizeLine_eq]
      omega
    · by_cases a : n < 1
      · rw [if_pos a]
        have e : repS z n = Str.empty := by
          obtain rfl : n = 0 := by omega
          rfl
        rw [e] at fz
        exact ⟨by decide, .str _, H, I.tok _, ⟨_, rfl⟩, fz⟩
      · rw [if_neg a]
        by_cases b : n = 1
        · subst b
          rw [if_pos (by rfl)]
          have e : repS z 1 = z := by
            cases z
            unfold repS
            simp
          rw [e] at fz
          exact ⟨.str _, H, I, ⟨_, rfl⟩, fz⟩
        · rw [if_neg (by
            rw [Bool.or_eq_true, beq_iff_eq, beq_iff_eq]
            omega)]
          rw [← repS_fold]
          refine ⟨?_, .str _, H, I.tok _, ⟨_, rfl⟩, fz⟩
          have e : (repS z n).length = n.toNat * z.length := by
            show ((List.replicate n.toNat z.cps.toList).flatten.toArray).size = _
            rw [List.size_toArray, List.length_flatten, List.map_replicate, List.sum_replicate_nat]
            rfl
          rw [e, Nat.mul_comm, sizeLine_eq]
          omega
  · exact f.elim
def inXD : O2 := fun x y hc P => match y with
  | .str z => match x with
    | .str s => ∃ c : Nat, s = ⟨#[c]⟩ ∧ P (.bl (decide (c ∈ z.cps.toList)))
    | _ => False
  | _ => inD x y hc P
theorem op_inXD {k : Nat} (g : RG k X.A) : OpR X (compareOp .In) (LV2 X.K inXD) := by
  intro pins s σ H x y v u Q I rx ry h
  obtain ⟨hc, m, dx, dy, P, w, h1, h2, f, fin⟩ := h
  unfold inXD at f
  split at f
  · split at f
    · unfold RepW Rep at h1 h2
      subst h1; subst h2
      obtain ⟨c, rfl, k⟩ := f
      exact op_in_sign pins s σ H _ _ v u Q I rx ry ⟨c, _, rfl, rfl, fin _ k _ _ (.refl H) rep_blv⟩
    · exact f.elim
  · exact op_inDD g pins s σ H x y v u Q I rx ry ⟨hc, m, dx, dy, P, w, h1, h2, f, fin⟩
end
/-! ### a text walked -/
def signsD (z : Str) : List D := z.cps.toList.map fun c => D.str ⟨#[c]⟩
theorem signs_at {z : Str} {i : Nat} {d : D} (h : (signsD z)[i]? = some d) : ∃ c, z.cps[i]? = some c ∧ d = .str ⟨#[c]⟩ := by
  unfold signsD at h
  rw [List.getElem?_map, Array.getElem?_toList] at h
  cases e : z.cps[i]? with
  | none => rw [e] at h; cases h
  | some c => rw [e] at h; cases h; exact ⟨c, rfl, rfl⟩
theorem signs_len {z : Str} : (signsD z).length = z.length := by
  unfold signsD
  rw [List.length_map, Array.length_toList]
  rfl
def cItS (ce : CEx) : CIx := fun E sc hc P => ce E sc hc fun d hc1 => match d with | .str z => P (signsD z) hc1 | _ => False
section
variable {X : Cx} {W : WX} {tg e : Expr} {ce : CEx}
theorem ci_str (h : CE X W e ce) : CI X W tg e (cItS ce) := ⟨pi_wk (pi_str h.p) fun σ H R ⟨en, sc, hc, m, E, P, r, k, xo, fin⟩ =>
  ⟨en, sc, hc, m, E, _, r, k, xo, fun d hc1 p v H1 m1 x1 q => by
    cases d <;> try exact p.elim
    rename_i z
    unfold Rep at q
    subst q
    refine ⟨z, rfl, fin _ hc1 p _ H1 m1 x1 fun H2 m2 mo s2 i => ⟨fun d ed => ?_, fun hl => ?_⟩⟩
    · obtain ⟨c, ec, rfl⟩ := signs_at ed
      refine ⟨?_, fun x3 H3 ⟨e3, c', ec', e4⟩ => ?_⟩
      · exact (Array.getElem?_eq_some_iff.mp ec).1
      · rw [ec] at ec'; cases ec'
        subst e3; subst e4
        exact ⟨.refl _, rep_str⟩
    · rw [signs_len] at hl
      exact hl⟩⟩
end
theorem e_ItS {ce : CEx} {E : XP} {sc : List Sl} {hc : CH} {P : List D → CH → Prop} : cItS ce E sc hc P = ce E sc hc fun d hc1 => match d with | .str z => P (signsD z) hc1 | _ => False := rfl
/-! ### enumerate of a text -/
/-- the signs of x, each in a new pair -/
def IteS (x : Str) : It :=
  ⟨fun i _ => i < x.cps.size, fun i H v H2 => ∃ N c, v = .ref N ∧ H N = none ∧ H2 = upd H N (.tup [.int (i : Nat), .str ⟨#[c]⟩]) ∧ x.cps[i]? = some c, fun i _ => x.cps.size ≤ i⟩
theorem turn_enS {P : Program} {w : World} {K : PySem.W.Frag} {elts : List Expr} {kk : Nat} {tpos : Pos} (x : Str) (t : Tok) (e it : Addr) :
    Turn P w K (.Tuple elts kk tpos) (IteS x) [e, it] e (fun i h => (∃ old, IsEnum h e it ((i : Nat) : Int) old) ∧ h.IsStrIter it (strIterType x) x t i ∧ e ≠ it) where
  mem := List.mem_cons_self ..
  obj := fun i h st b hb => by
    obtain ⟨⟨old, ie⟩, ⟨o, ho, hcl, hdt⟩, _⟩ := st
    rcases List.mem_cons.mp hb with rfl | hb
    · exact ⟨_, ie, fun v q => nomatch q⟩
    · cases List.mem_singleton.mp hb
      exact ⟨o, ho, fun v q => by rw [hdt] at q; cases q⟩
  keep := fun i h h2 st k => by
    obtain ⟨⟨old, ie⟩, ⟨o, ho, r⟩, ne⟩ := st
    exact ⟨⟨old, k e (List.mem_cons_self ..) _ ie⟩, ⟨o, k it (List.mem_cons_of_mem _ (List.mem_singleton_self _)) o ho, r⟩, ne⟩
  item := by
    intro X eP ew eK cal i pins s σ H E I apart st gd
    subst eP ew eK
    obtain ⟨⟨old, ie⟩, hit, ne⟩ := st
    have le : e < s.heap.objs.size := Heap.lt_size ie
    have li : it < s.heap.objs.size := by obtain ⟨_, q, _⟩ := hit; exact Heap.lt_size q
    have D := Draws.text (prog := X.prog) (w := X.w) (A := X.A.in1) (I.ok.hd cal) it x t
    refine wpAny_pyNext_enum_itemD D ie hit gd ne ?_ fun y h2 tk hy out st2 hN hsz hk => ?_
    · intro q
      exact ne (List.mem_singleton.mp q)
    obtain ⟨c, u, hc, rfl⟩ := hy
    refine ⟨_, rfl, wpAny_letOwnedTupleGo_enum (s := { s with heap := h2, toks := tk + 1 }) out fun h3 ie3 sb => ?_⟩
    have hN3 : h3.get? s.heap.objs.size = some { cls := .type "tuple", data := .seq #[.int i tk, .str ⟨#[c]⟩ u] } := (sb.2 _ (Nat.ne_of_gt le)).trans hN
    have new : ObjOk X.prog X.w (upd H s.heap.objs.size (.tup [.int (i : Nat), .str ⟨#[c]⟩])) h3 s.heap.objs.size (.tup [.int (i : Nat), .str ⟨#[c]⟩]) :=
      ⟨show 2 ≤ sizeLine by decide, [.int i tk, .str ⟨#[c]⟩ u], .cons ⟨_, rfl⟩ (.cons ⟨_, rfl⟩ .nil), ⟨_, hN3, rfl, _, rfl⟩⟩
    have I1 : Inv X pins σ (upd H s.heap.objs.size (.tup [.int (i : Nat), .str ⟨#[c]⟩])) { s with heap := h3, toks := tk + 1 } :=
      I.turnedNew (t' := tk + 1) (ch := [e, it]) (fun b ob hb q => (sb.2 b (fun z => hb (z ▸ List.mem_cons_self ..))).trans (hk b ob (fun z => hb (z ▸ List.mem_cons_self ..)) (fun z => hb (z ▸ List.mem_cons_of_mem _ (List.mem_singleton_self _))) q)) apart (Nat.le_refl _) new
    have sit : h3.IsStrIter it (strIterType x) x t (i + 1) := by
      obtain ⟨o, ho, r⟩ := st2
      exact ⟨o, (sb.2 it (Ne.symm ne)).trans ho, r⟩
    refine ⟨.ref s.heap.objs.size, _, I1, rfl, ⟨_, c, rfl, I.hok.fresh (Nat.le_refl _), rfl, hc⟩, ⟨⟨.str ⟨#[c]⟩ u, ?_⟩, sit, ne⟩, fun b hb => ?_⟩
    · rw [show ((i + 1 : Nat) : Int) = (i : Int) + 1 by omega]
      exact ie3
    · have lb : b < s.heap.objs.size := by
        rcases List.mem_cons.mp hb with rfl | hb
        · exact le
        · cases List.mem_singleton.mp hb
          exact li
      exact (upd_ne (Nat.ne_of_lt lb)).trans (apart b hb).1
  done := by
    intro X eP ew eK cal i pins s σ H E I apart st gd
    subst eP ew eK
    obtain ⟨⟨old, ie⟩, hit, ne⟩ := st
    obtain ⟨f0, f1, f2, f3, f4, f5⟩ := apart it (List.mem_cons_of_mem _ (List.mem_singleton_self _))
    have hT : s.TypeIs (.ref e) "enumerate" := ⟨_, ie, rfl⟩
    unfold pyNext
    refine wpAny_bind (wpAny_attempt (wpAny_callSpecial?_slot (name := Str.ofString "__next__") hT F.slot_enumerate_next
      (wpAny_call_entry F.slot_enumerate_next hT F.entry_enumerate_next ?_ (F.args_enumerate_next_1 _))))
    show wpAny _ _ (field (.ref e) 2 >>= _) _ _ _
    refine wpAny_bind (wpAny_field ie rfl (x := .ref it) rfl ?_)
    have nx : ∀ {Q E2 : Value → Shared → Prop}, (∀ h2 x, Heap.ExtBut it s.heap h2 → (∃ o, h2.get? x = some o ∧ o.cls = .type "StopIteration") → E2 (.ref x) { s with heap := h2 }) → wpAny (model X.prog X.w) X.A.in1 (Builtin.SmallTypes.nextOf (.ref it)) Q E2 s := fun {Q E2} q => by
      have hx : x.cps[i]? = none := Array.getElem?_eq_none gd
      cases ha : x.cps.all (· < 128)
      · simp only [strIterType, ha, Bool.false_eq_true, if_false] at hit
        exact wpAny_nextOf_wide_end (I.ok.hd cal) hit hx q
      · simp only [strIterType, ha, if_true] at hit
        exact wpAny_nextOf_ascii_end (I.ok.hd cal) hit hx q
    refine wpAny_bind (nx fun h2 x eb hx => ?_)
    obtain ⟨o, ho, hcl⟩ := hx
    refine wpAny_bind (wpAny_isInstance (T := "StopIteration") (b := true) ⟨o, ho, hcl⟩ isSubtype_stop ?_)
    exact wpAny_pure ⟨rfl, I.turned (t' := s.toks) (fun b o hb q => eb b o hb q) f0 f1 f3 f4 f5⟩
  self := fun A i s Q E st y => by
    obtain ⟨⟨_, ie⟩, _⟩ := st
    exact wpAny_pyIter_enum ie y
def iEnS (ta : TA) : TI := fun σ H R => ta σ H fun vs H1 => ∃ x, vs = [.str x] ∧ R (IteS x) H1
theorem pi_enS {X : Cx} {e : Expr} {ta : TA} {p pos tpos : Pos} {elts : List Expr} {kk : Nat} (hg : Gl X "enumerate") (hm : X.mg "enumerate" = none) (ha : PA X [e] ta) (hs : starEach [e] X.env = [(false, eval e X.env)] := by rfl) :
    PI X (.Tuple elts kk tpos) (.Call (.Name "enumerate" p) [e] [] pos) (iEnS ta) := by
  refine ⟨fun pins s σ H R I y => ?_⟩
  refine Call_ (ld_blt I hg hm boot_enumerate (PyProof.Rows.callWith_type1 (thn (ha.run pos pins s σ H _ I y) fun us s1 ⟨vs, H1, I1, r1, q1⟩ => ?_) hs rfl))
  obtain ⟨x, ev, q⟩ := q1
  subst ev
  cases r1 with
  | cons r rr =>
    cases rr
    obtain ⟨t, rfl⟩ := r
    have ap : ∀ b ∈ [s1.heap.objs.size + 1, s1.heap.objs.size], s1.heap.objs.size ≤ b := fun b hb => by
      rcases List.mem_cons.mp hb with rfl | hb
      · exact Nat.le_add_right _ _
      · cases List.mem_singleton.mp hb
        exact Nat.le_refl _
    refine enum_call (begins_text x t) trivial fun h2 ie hit hk => wpAny_pyIter_enum ie ?_
    have I2 : Inv X pins σ H1 { s1 with heap := h2 } := I1.kept (t' := s1.toks) hk
    exact ⟨s1.heap.objs.size + 1, [s1.heap.objs.size + 1, s1.heap.objs.size], _, _, H1, rfl, I2, turn_enS x t (s1.heap.objs.size + 1) s1.heap.objs.size, ⟨⟨.none, ie⟩, ⟨_, hit, rfl, rfl⟩, Nat.succ_ne_self _⟩, fun b hb => I1.fpOk (ap b hb) (I1.hok.fresh (ap b hb)), q⟩
def enuSP (ds : List D) (P : List D → CH → Prop) (hc : CH) : Prop := match ds with
  | [.str z] => P (enuL (signsD z)) hc
  | _ => False
def cEnumS (c1 : CEx) : CIx := fun E sc hc P => cCons c1 cNil E sc hc fun ds hc1 => enuSP ds P hc1
theorem ci_enumS {X : Cx} {W : WX} {elts : List Expr} {kk : Nat} {tpos p pos : Pos} {e : Expr} {c1 : CEx} (hm : X.mg "enumerate" = none) (h1 : CE X W e c1) (hg : Gl X "enumerate" := by rfl) (hs : starEach [e] X.env = (false, eval e X.env) :: starEach [] X.env := by rfl) (hs1 : starEach [e] X.env = [(false, eval e X.env)] := by rfl) :
    CI X W (.Tuple elts kk tpos) (.Call (.Name "enumerate" p) [e] [] pos) (cEnumS c1) := ⟨pi_wk (pi_enS hg hm (ca_cons h1 ca_nil hs).p hs1) fun σ H R ⟨en, sc, hc, m, E, P, r, k, xo, fin⟩ =>
  ⟨en, sc, hc, m, E, fun ds hc1 => enuSP ds P hc1, r, k, xo, fun ds hc1 pz vs H1 m1 x1 q => by
    have mu1 := (r.call x1).mu
    have pz : enuSP ds P hc1 := pz
    unfold enuSP at pz
    split at pz
    · rename_i z _
      unfold RepL at q
      obtain ⟨v1, r1, rfl, qa, q⟩ := q
      unfold RepL at q
      subst q
      unfold Rep at qa
      subst qa
      refine ⟨z, rfl, fin _ hc1 pz _ H1 m1 x1 fun H2 m2 mo s2 i => ⟨fun d ed => ?_, fun hl => ?_⟩⟩
      · obtain ⟨y, ey, rfl⟩ := enu_at ed
        obtain ⟨c, ec, rfl⟩ := signs_at ey
        refine ⟨(Array.getElem?_eq_some_iff.mp ec).1, fun x3 H3 ⟨T, c', e3, nT, eH, ec'⟩ => ?_⟩
        rw [ec] at ec'; cases ec'
        subst e3
        subst eH
        exact ⟨same_upd nT, rep_tup mo nT (RepL.cons rep_int (RepL.cons rep_str RepL.nil))⟩
      · rw [enu_len, signs_len] at hl
        exact hl
    · exact pz.elim⟩⟩
theorem e_EnumS {c1 : CEx} {E : XP} {sc : List Sl} {hc : CH} {P : List D → CH → Prop} : cEnumS c1 E sc hc P = cCons c1 cNil E sc hc fun ds hc1 => enuSP ds P hc1 := rfl
theorem o_enS {z : Str} {hc : CH} {P : List D → CH → Prop} : enuSP [.str z] P hc = P (enuL (signsD z)) hc := rfl
/-! ### join, index -/
theorem repl_strs_of {K : PySem.W.Frag} {H : Hp} {m : Ms} : ∀ {ns : List Str} {vs : List V}, RepL K H m (ns.map D.str) vs → vs = ns.map V.str
  | [], vs, h => by unfold List.map RepL at h; exact h
  | n :: ns, vs, h => by
    unfold List.map RepL at h
    obtain ⟨v, r, rfl, h1, h2⟩ := h
    unfold Rep at h1
    rw [h1, repl_strs_of h2]
    rfl
def cJn (ca cb : CEx) : CEx := fun E sc hc P => ca E sc hc fun d hc1 => match d with
  | .str a => cb E sc hc1 fun d2 hc2 => match d2 with
    | .lst xs => ∃ ys : List Str, xs = ys.map D.str ∧ (ys.map (·.length)).sum + ys.length * a.length ≤ 16777216 ∧ P (.str (Txt.join a ys)) hc2
    | _ => False
  | _ => False
def cIxS (ca cb : CEx) : CEx := fun E sc hc P => ca E sc hc fun d hc1 => match d with
  | .str a => cb E sc hc1 fun d2 hc2 => match d2 with
    | .str b => ∃ (i : Nat) (rest : List Nat), Builtin.Str.occurrences a b 0 a.length 1 = i :: rest ∧ P (.int (i : Int)) hc2
    | _ => False
  | _ => False
section
variable {X : Cx} {W : WX} {e e2 : Expr} {ca cb : CEx} {apos pos : Pos}
theorem ce_join (h : CE X W e ca) (h2 : CE X W e2 cb) (hs : starEach [e2] X.env = (false, eval e2 X.env) :: starEach [] X.env := by rfl)
    (hb : attributeBase e "join" X.env (eval e X.env) = eval e X.env := by rfl)
    (hfew : ((backTo pos (starEach [e2] X.env)).all (fun x => !x.1) && (backToKw pos (keywordEach [] X.env)).all (fun x => x.1.isSome)
      && decide ([e2].length + ([] : List Keyword).length + (if ([] : List Keyword).isEmpty then 0 else 1) < 30)) = true := by rfl)
    (hl : (apos.endLine == pos.line) = true := by rfl) : CE X W (.Call (.Attribute e "join" apos) [e2] [] pos) (cJn ca cb) :=
  ⟨pe_wk (pe_bm PySem.F.plainAttrs_str PySem.F.slot_str_join PySem.F.type_str_join mt_join h.p (pa_cons h2.p pa_nil hs) hb hfew hl hs) fun σ H Q ⟨en, sc, hc, m, E, P, r, k, xo, fin⟩ =>
    ⟨en, sc, hc, m, E, _, r, k, xo, fun d hc1 p v H1 m1 x1 q => by
      cases d <;> try exact p.elim
      rename_i a
      unfold Rep at q
      subst q
      exact ⟨rfl, en, sc, hc1, m1, E, _, r.call x1, p, xo, fun d2 hc2 p2 v2 H2 m2 x2 q2 => by
        cases d2 <;> try exact p2.elim
        rename_i xs
        unfold Rep at q2
        obtain ⟨p3, vs, rfl, na, ha, la⟩ := q2
        obtain ⟨ys, rfl, sz, pd⟩ := p2
        rw [repl_strs_of la] at ha
        exact ⟨a, p3, ys, rfl, rfl, .inl (.of ha), sz, fin _ hc2 pd _ H2 m2 (x1.trans x2) rep_str⟩⟩⟩⟩
theorem ce_index (h : CE X W e ca) (h2 : CE X W e2 cb) (hs : starEach [e2] X.env = (false, eval e2 X.env) :: starEach [] X.env := by rfl)
    (hb : attributeBase e "index" X.env (eval e X.env) = eval e X.env := by rfl)
    (hfew : ((backTo pos (starEach [e2] X.env)).all (fun x => !x.1) && (backToKw pos (keywordEach [] X.env)).all (fun x => x.1.isSome)
      && decide ([e2].length + ([] : List Keyword).length + (if ([] : List Keyword).isEmpty then 0 else 1) < 30)) = true := by rfl)
    (hl : (apos.endLine == pos.line) = true := by rfl) : CE X W (.Call (.Attribute e "index" apos) [e2] [] pos) (cIxS ca cb) :=
  ⟨pe_wk (pe_bm PySem.F.plainAttrs_str PySem.F.slot_str_index PySem.F.type_str_index mt_sindex h.p (pa_cons h2.p pa_nil hs) hb hfew hl hs) fun σ H Q ⟨en, sc, hc, m, E, P, r, k, xo, fin⟩ =>
    ⟨en, sc, hc, m, E, _, r, k, xo, fun d hc1 p v H1 m1 x1 q => by
      cases d <;> try exact p.elim
      rename_i a
      unfold Rep at q
      subst q
      exact ⟨rfl, en, sc, hc1, m1, E, _, r.call x1, p, xo, fun d2 hc2 p2 v2 H2 m2 x2 q2 => by
        cases d2 <;> try exact p2.elim
        rename_i b
        unfold Rep at q2
        subst q2
        obtain ⟨i, rest, eo, pd⟩ := p2
        exact ⟨a, b, i, rest, rfl, rfl, eo, fin _ hc2 pd _ H2 m2 (x1.trans x2) rep_int⟩⟩⟩⟩
end
theorem e_Jn {ca cb : CEx} {E : XP} {sc : List Sl} {hc : CH} {P : D → CH → Prop} : cJn ca cb E sc hc P = ca E sc hc fun d hc1 => match d with
  | .str a => cb E sc hc1 fun d2 hc2 => match d2 with
    | .lst xs => ∃ ys : List Str, xs = ys.map D.str ∧ (ys.map (·.length)).sum + ys.length * a.length ≤ 16777216 ∧ P (.str (Txt.join a ys)) hc2
    | _ => False
  | _ => False := rfl
theorem e_IxS {ca cb : CEx} {E : XP} {sc : List Sl} {hc : CH} {P : D → CH → Prop} : cIxS ca cb E sc hc P = ca E sc hc fun d hc1 => match d with
  | .str a => cb E sc hc1 fun d2 hc2 => match d2 with
    | .str b => ∃ (i : Nat) (rest : List Nat), Builtin.Str.occurrences a b 0 a.length 1 = i :: rest ∧ P (.int (i : Int)) hc2
    | _ => False
  | _ => False := rfl
/-! ### int(text), up to 4300 signs; int(text, 16) -/
theorem lim_ok {M : Model} {A : Around} {E : Value → Shared → Prop} {s : Shared} {Q : Nat → Shared → Prop} (S : Stat s.heap) (k : Q 4300 s) : wpAny M A Builtin.intMaxStrDigits Q E s := by
  obtain ⟨⟨mc, N, z⟩, _⟩ := S
  unfold Builtin.intMaxStrDigits
  refine wpAny_bind (wpAny_nsGet N ?_)
  rw [z]
  exact wpAny_pure k
theorem wp_textL {M : Model} {A : Around} {E : Value → Shared → Prop} {s : Shared} {Q : Value → Shared → Prop} {v : Value} {text : List Nat} {n : Int} (S : Stat s.heap)
    (hs : ¬ (text.takeWhile (· != 0)).length ≤ 640) (hr : (int_private% "readNumeral") 4300 10 (text.takeWhile (· != 0)) = (int_private% "Numeral.value") n)
    (ha : ((text.takeWhile (· != 0)).length == text.length) = true) (h : Q (.int n s.toks) { s with toks := s.toks + 1 }) :
    wpAny M A ((int_private% "intFromText") v text 10) Q E s := by
  have go : ∀ {A2 : Around} {E2 : Value → Shared → Prop} {Q2 : Nat → Shared → Prop}, Q2 4300 s → wpAny M A2 Builtin.intMaxStrDigits Q2 E2 s := fun q => lim_ok S q
  obtain ⟨hp, g, d, tk, os⟩ := s
  repeat (any_goals (first
    | assumption
    | (with_reducible refine go ?_)
    | (with_reducible refine wpAny_ite_false (decide_eq_false hs) ?_)
    | (with_reducible refine wpAny_ite_true (decide_eq_true ha) ?_)
    | wp_step))
  all_goals (try rw [hr])
  all_goals (try dsimp only)
  repeat (any_goals (first
    | assumption
    | (with_reducible refine go ?_)
    | (with_reducible refine wpAny_ite_false (decide_eq_false hs) ?_)
    | (with_reducible refine wpAny_ite_true (decide_eq_true ha) ?_)
    | wp_step))
structure HidL (p : Prop) : Prop where
  out : p
set_option maxHeartbeats 4000000 in
open PySem.W.KIN in
theorem meets_textL {x : PySem.Str} {u : Tok} {n : Int} (hl : ¬ (numSeenOf x).length ≤ 640) (hx : x.length ≤ sizeLine) (hn : PySem.intText? x = some n) :
    Meets (Builtin.«int.__new__» ⟨[.type "int", .str x u], []⟩) (fun _ R s => Stat s.heap ∧ R (.ok (.ret (.int n s.toks))) { s with toks := s.toks + 1 }) := fun prog w A R s ⟨S, h⟩ => by
  have h2 : wpAny (model prog w) A.in1 (Builtin.«int.__new__» ⟨[.type "int", .str x u], []⟩) (fun fin s' => ∃ v, fin = .done (.ret v) ∧ R (.ok (.ret v)) s') (fun e s' => R (.error e) s') s := by
    have f1 := PySem.F.conv_sub_int
    have f2 := PySem.F.madeHere_int
    have f3 := str_int
    have f4 := str_idx
    have f5 := str_trunc
    have f6 : typeOf (.str x u) = pure (.type "str") := rfl
    have hr : (int_private% "readNumeral") 4300 10 (numSeenOf x) = (int_private% "Numeral.value") n ∧ ((numSeenOf x).length == (numTextOf x).length) = true := by
      rcases read4300 x hx with ⟨m, h1, h2, h3⟩ | ⟨h1, _⟩
      · rw [hn] at h1
        injection h1 with h1
        subst h1
        exact ⟨h3, h2⟩
      · rw [hn] at h1
        cases h1
    have hk := HidL.mk (And.intro S (And.intro hl hr))
    clear S hl hr hn hx
    obtain ⟨hp, g, d, tk, os⟩ := s
    repeat (any_goals (first
      | assumption
      | ((with_reducible show wpAny _ _ ((int_private% "intFromText") _ _ _) _ _ _); refine wp_textL hk.out.1 hk.out.2.1 hk.out.2.2.1 hk.out.2.2.2 ?_)
      | wp_step))
    all_goals first | exact ⟨_, rfl, h⟩ | skip
  exact wpAny_mono h2 (fun fin s' h' => by obtain ⟨v, rfl, hv⟩ := h'; exact hv) fun _ _ x => x
theorem seen_digits {x : PySem.Str} (h : PySem.NumText.AllDigits x.cps.toList) : (numSeenOf x).length = x.length := by
  obtain ⟨e1, e2⟩ := PySem.numText_signs fun c hc => Or.inr (h c hc)
  first
    | rw [e2, Array.length_toList]; rfl
    | rw [e1, Array.length_toList]; rfl
theorem call_textL {prog : Program} {w : World} {A : Around} {E : Value → Shared → Prop} {s : Shared} {Q : Value → Shared → Prop} {x : PySem.Str} {t : Tok} (S : Stat s.heap) (hd : PySem.NumText.AllDigits x.cps.toList) (h1 : x.cps.toList ≠ []) (hx : x.length ≤ 4300)
    (h : Q (.int ((PySem.NumText.digitsVal x.cps.toList : Nat) : Int) s.toks) { s with toks := s.toks + 1 }) : wpAny (model prog w) A (call (.type "int") [.str x t]) Q E s := by
  have hn := PySem.intText_digits hd h1 hx
  by_cases hl : x.length ≤ 640
  · exact PySem.W.KIN.call_text hn hl h
  · exact call_int_1 (meets_textL (by rw [seen_digits hd]; exact hl) (by rw [sizeLine_eq]; omega) hn) ⟨S, rfl, h⟩
def intTD : On := fun ds _ P => match ds with
  | [.int i] => P (.int i)
  | [.bl b] => P (.int (if b then 1 else 0))
  | [.str a] => (PySem.NumText.AllDigits a.cps.toList ∧ a.cps.toList ≠ [] ∧ a.length ≤ 4300) ∧ P (.int ((PySem.NumText.digitsVal a.cps.toList : Nat) : Int))
  | [.str a, .int 16] => ((∀ c ∈ a.cps.toList, Hx.IsHex c) ∧ a.cps.toList ≠ [] ∧ a.length ≤ 640) ∧ P (.int ((Hx.hexNum a.cps.toList : Nat) : Int))
  | _ => False
theorem bt_intT {X : Cx} (st : statK X.K = true) : CallR X (.type "int") (LVn X.K intTD) := by
  intro pins s σ H xs us Q I r h
  obtain ⟨hc, m, ds, P, w, h1, f, fin⟩ := h
  unfold intTD at f
  split at f
  · obtain ⟨x, rfl, k1⟩ := wl1 h1
    unfold RepW Rep at k1
    subst k1
    exact call_int1 pins s σ H _ us Q I r (.inl ⟨_, rfl, fin _ f _ _ (.refl H) rep_int⟩)
  · obtain ⟨x, rfl, k1⟩ := wl1 h1
    unfold RepW Rep at k1
    subst k1
    exact call_int1 pins s σ H _ us Q I r (.inr ⟨_, rfl, fin _ f _ _ (.refl H) rep_int⟩)
  · obtain ⟨x, rfl, k1⟩ := wl1 h1
    unfold RepW Rep at k1
    subst k1
    obtain ⟨⟨f1, f2, f3⟩, f4⟩ := f
    obtain ⟨u, rfl, ru⟩ := vals1 r
    obtain ⟨t, rfl⟩ := ru
    exact call_textL (stat_of I.kIn I.nolimit st) f1 f2 f3 ⟨.int _, H, I.tok _, ⟨_, rfl⟩, fin _ f4 _ _ (.refl H) rep_int⟩
  · obtain ⟨x, y, rfl, k1, k2⟩ := wl2 h1
    unfold RepW Rep at k1 k2
    subst k1; subst k2
    obtain ⟨⟨f1, f2, f3⟩, f4⟩ := f
    rename_i a
    exact call_int_hex pins s σ H _ us Q I r ⟨a.cps.toList, rfl, f2, f3, f1, fin _ f4 _ _ (.refl H) rep_int⟩
  · exact f.elim
theorem o_iT1 {i : Int} {hc : CH} {P : D → Prop} : intTD [.int i] hc P = P (.int i) := rfl
theorem o_iT2 {b : Bool} {hc : CH} {P : D → Prop} : intTD [.bl b] hc P = P (.int (if b then 1 else 0)) := rfl
theorem o_iT3 {a : Str} {hc : CH} {P : D → Prop} : intTD [.str a] hc P = ((PySem.NumText.AllDigits a.cps.toList ∧ a.cps.toList ≠ [] ∧ a.length ≤ 4300) ∧ P (.int ((PySem.NumText.digitsVal a.cps.toList : Nat) : Int))) := rfl
theorem o_iT4 {a : Str} {hc : CH} {P : D → Prop} : intTD [.str a, .int 16] hc P = (((∀ c ∈ a.cps.toList, Hx.IsHex c) ∧ a.cps.toList ≠ [] ∧ a.length ≤ 640) ∧ P (.int ((Hx.hexNum a.cps.toList : Nat) : Int))) := rfl
theorem o_mT {x : Str} {n : Int} {hc : CH} {P : D → Prop} : mulTD (.str x) (.int n) hc P = ((0 ≤ n ∧ n ≤ 1000 ∧ 0 < x.length ∧ x.length ≤ 1000) ∧ P (.str (repS x n))) := rfl
theorem o_xS {s z : Str} {hc : CH} {P : D → Prop} : inXD (.str s) (.str z) hc P = ∃ c : Nat, s = ⟨#[c]⟩ ∧ P (.bl (decide (c ∈ z.cps.toList))) := rfl
theorem o_xT {x : D} {ys : List D} {hc : CH} {P : D → Prop} : inXD x (.tup ys) hc P = inD x (.tup ys) hc P := rfl
theorem o_xL {x : D} {ys : List D} {hc : CH} {P : D → Prop} : inXD x (.lst ys) hc P = inD x (.lst ys) hc P := rfl
end Mn

namespace Mn
open PySem PySem.Spec PyProof.Rows L2
/-! ### the law's entry, with the tables of the defs' code objects -/
abbrev tab0 : Obj := { cls := .none, data := .fields #[] }
abbrev tabA (K : PySem.W.Frag) : List Addr := (tabsL K).map (·.1)
/-- the script, and empty tables -/
def OnlyT (K : PySem.W.Frag) (H : Hp) : Prop := ∀ b, H b = none ∨ (b ∈ tabA K ∧ H b = some (.tbl #[])) ∨ ∃ o xs, H b = some (.frz o (.lst xs))
theorem law_inT {K : PySem.W.Frag} {mg : Str → Option Value} {H : Hp} {a : Addr} {ns : List Int} {E : XK} (hl : ns.length ≤ 63) (hO : OnlyT K H) (hT : ∀ b ∈ tabA K, H b = some (.tbl #[])) (hS : SqL K H a (ns.map V.int)) : toSp K mg spLaw [.ref a] H (fun v _ => v = .bl true) E := by
  refine ⟨fun _ => none, fun _ => False, [.frz (ns.map D.int)], fun d _ => d = .bl true, fun _ _ => False, ⟨fun p hp => .nil (hT _ (List.mem_map_of_mem hp)), fun _ z => z.elim, fun _ _ z => (nomatch z), fun _ _ z => (nomatch z)⟩, RepL.cons ?_ RepL.nil, ⟨ns, rfl, hl, fun _ => rfl⟩, fun d hc' e v H' m' x q => ?_, fun _ _ z => z.elim⟩
  · unfold Rep
    refine ⟨a, _, rfl, ?_, repl_ints ns⟩
    rcases hS with (h | ⟨o, h⟩) | h
    · rcases hO a with y | ⟨_, y⟩ | ⟨o, xs, y⟩ <;> (rw [h] at y; cases y)
    · exact .inl ⟨o, h⟩
    · exact .inr h
  · subst e
    unfold Rep at q
    exact q
/-- what the making of lambdas asks of the ground -/
def BaseT (K : PySem.W.Frag) (mg : Str → Option Value) (base : Heap) : Prop := ∀ b ∈ tabA K, base.BuiltinsAt mg b ∧ mainGlobals ≠ b
/-- each table's code object is known -/
theorem tab_code {K : PySem.W.Frag} {b : Addr} (h : b ∈ tabA K) : ∃ c, PySem.W.codeHdIn K c b = true := by
  obtain ⟨p, hp, rfl⟩ := List.mem_map.mp h
  obtain ⟨⟨f, o⟩, _, e⟩ := List.mem_filterMap.mp hp
  unfold tabD at e
  split at e
  · split at e
    · rename_i c _
      by_cases z : PySem.W.codeHdIn K c (He.tabOf K c) = true
      · rw [if_pos z] at e
        cases e
        exact ⟨c, z⟩
      · rw [if_neg z] at e; cases e
    · cases e
  · cases e
section
variable {P : Program} {w : World} {K : PySem.W.Frag} {mg mb : Str → Option Value} {C : CXT} {k : Nat} {fa a : Addr} {fd : FuncData} {x : Str} {sp : Sp} {s : Shared} {vs : List Value} {ns : List Int}
theorem law_fromT (KX : K.In s.heap) (hns : s.heap.Ns mainGlobals mg) (hb : s.heap.Ns builtinsNs mb) (hbb : ∀ x : Str, x ≠ "__name__" → mb x = bootBuiltins x) (hlim : s.heap.NoLimit) (hg : s.gens = #[])
    (hbm : ∃ bm ob, mg "__builtins__" = some (.ref bm) ∧ bm ≠ builtinsNs ∧ s.heap.get? bm = some ob ∧ ob.cls = .type "module" ∧ ob.dict = some builtinsNs ∧ ob.data = .plain)
    (ht : ∀ b ∈ tabA K, s.heap.get? b = some tab0 ∧ K.lookup b = none) (ha : s.heap.get? a = some { cls := .type "list", data := .seq vs.toArray }) (hr : Room k callerA)
    (F : ∀ base : Heap, K.In base → base.Ns mainGlobals mg → BaseT K mg base → FnG P w K mg base C k fa fd [x] sp) (hbind : ∀ (s : Shared) (u : Value), BindsTo s fd ⟨[u], []⟩ [(x, u)])
    (hsp : ∀ H : Hp, OnlyT K H → (∀ b ∈ tabA K, H b = some (.tbl #[])) → SqL K H a (ns.map V.int) → sp [.ref a] H (fun v _ => v = .bl true) fun _ _ _ => False) (hCX : ∀ H e s', C [] H s (fun _ _ _ => False) e s' → False)
    (H : Hp) (hO : OnlyT K H) (hT : ∀ b ∈ tabA K, H b = some (.tbl #[])) (hS : SqL K H a (ns.map V.int)) (hok : HOk P w H s.heap) (hA : ∀ b, H b ≠ none → b = a ∨ b ∈ tabA K) (hK : H a ≠ none → K.lookup a = none) :
    codeAny (model P w) callerA (.call (.ref fa) ⟨[.ref a], []⟩) (fun r z => r = .ok (.ret (.bool true)) ∧ OldK s.heap z.heap ∧ z.os = s.os ∧ AllBare z.gens) s := by
  have hid : ∀ {b : Addr} {o : Obj}, s.heap.get? b = some o → H b = none → (hidT s.heap H).get? b = some o := fun e n => hidT_get e n
  have plain : ∀ {b : Addr} {o : Obj}, s.heap.get? b = some o → (∀ us n, o.data = .seq us n → False) → (o.data = .fields #[] → False) → H b = none := fun {b o} e n1 n2 => by
    cases q : H b with
    | none => rfl
    | some u =>
      rcases hA b (by rw [q]; simp) with z | z
      · subst z
        rw [ha] at e; cases e
        exact (n1 _ _ rfl).elim
      · rw [(ht b z).1] at e; cases e
        exact (n2 rfl).elim
  have noDict : ∀ {b : Addr} {o : Obj} {es : Array DictEntry} {ep : Nat}, s.heap.get? b = some o → o.data = .dict es ep → H b = none := fun {b o es ep} e d =>
    plain e (fun us n z => by rw [d] at z; cases z) fun z => by rw [d] at z; cases z
  have ns2 : ∀ {b : Addr} {m : Str → Option Value}, s.heap.Ns b m → (hidT s.heap H).Ns b m := fun ⟨o, es, ep, e, d, r⟩ => ⟨o, es, ep, hid e (noDict e d), d, r⟩
  have Kin : K.In (hidT s.heap H) := fun b o e => hid (KX b o e) (by
    cases q : H b with
    | none => rfl
    | some u =>
      have nn : H b ≠ none := by rw [q]; simp
      rcases hA b nn with z | z
      · subst z
        rw [hK nn] at e; cases e
      · rw [(ht b z).2] at e; cases e)
  have M : Mod K mg (hidT s.heap H) := ⟨Kin, ns2 hns, ⟨mb, ns2 hb, hbb⟩, hlim.imp fun mc h => ⟨ns2 h.1, h.2⟩⟩
  have e0 : Env0 P w K mg (hidT s.heap H) callerA [] s H := ⟨rfl, M, fun b o e => of_hidT e, Nat.le_of_eq (hidT_size _ _), trivial, fun b z => (List.not_mem_nil (show b ∈ ([] : List Addr) from z)).elim, hok, .of_eq hg⟩
  have B : BaseT K mg (hidT s.heap H) := fun b hb => by
    obtain ⟨bm, ob, b1, b2, b3, b4, b5, b6⟩ := hbm
    have e := (ht b hb).1
    have ng : mainGlobals ≠ b := fun z => by
      obtain ⟨o, es, ep, e2, d, _⟩ := hns
      rw [z, e] at e2; cases e2; cases d
    refine ⟨⟨bm, ob, b1, b2, fun z => ?_, fun z => ?_, hid b3 (plain b3 (fun us n z => by rw [b6] at z; cases z) fun z => by rw [b6] at z; cases z), b4, b5, b6⟩, ng⟩
    · obtain ⟨o, es, ep, e2, d, _⟩ := hns
      rw [z, e2] at b3; cases b3
      rw [b6] at d; cases d
    · rw [z, e] at b3; cases b3
      cases b6
  refine codeAny_mono ((F _ Kin (ns2 hns) B).run callerA [] s H ⟨[.ref a], []⟩ [.ref a] [.ref a] _ _ (callerG hr) e0 (hbind s (.ref a)) (.cons rfl .nil) (hsp H hO hT hS)) fun r z h => ?_
  match r, h with
  | .error e, h => exact (hCX H e z h).elim
  | .ok .next, h => exact False.elim h
  | .ok .brk, h => exact False.elim h
  | .ok .cont, h => exact False.elim h
  | .ok (.ret u), ⟨v, H', os, bare, un, hok2, rel, q⟩ =>
    have qv : v = .bl true := q
    subst qv
    cases (show u = Value.bool true from rel)
    have same : ∀ {b : Addr} {o : Obj}, s.heap.get? b = some o → b ∉ tabA K → z.heap.get? b = some o := fun {b o} e nt => by
      rcases hO b with q | ⟨q, _⟩ | ⟨ob, xs, q⟩
      · exact un.keep b o e q (fun z => List.not_mem_nil (show b ∈ ([] : List Addr) from z)) (fun z => List.not_mem_nil z)
      · exact absurd q nt
      · obtain ⟨e1, _⟩ := hok b _ q
        rw [e] at e1
        cases e1
        exact (hok2 b _ (un.frzs b _ _ q)).1
    have grew : ∀ {b : Addr}, b ∈ tabA K → ∃ more : Array Value, z.heap.get? b = some { cls := .none, data := .fields more } := fun {b} hb => by
      obtain ⟨more, e⟩ := un.tbls b #[] (hT b hb)
      exact ⟨_, hok2 b _ e⟩
    refine ⟨rfl, ⟨fun b o e => ?_, fun b o e => ?_⟩, os, bare⟩
    · by_cases hb : b ∈ tabA K
      · obtain ⟨more, e2⟩ := grew hb
        obtain ⟨c, hc⟩ := tab_code hb
        have e3 := (ht b hb).1
        rw [e] at e3; cases e3
        exact .inr (.inl ⟨((PySem.W.codeHd_of_K KX hc).tab (ht b hb).1).isCodeTable, rfl, #[], more, rfl, by rw [Array.empty_append]; exact e2⟩)
      · exact .inl (same e hb)
    · by_cases hb : b ∈ tabA K
      · obtain ⟨more, e2⟩ := grew hb
        exact ⟨_, e2⟩
      · exact ⟨o, same e hb⟩
theorem lawT (KX : K.In s.heap) (hns : s.heap.Ns mainGlobals mg) (hb : s.heap.Ns builtinsNs mb) (hbb : ∀ x : Str, x ≠ "__name__" → mb x = bootBuiltins x) (hlim : s.heap.NoLimit) (hg : s.gens = #[])
    (hbm : ∃ bm ob, mg "__builtins__" = some (.ref bm) ∧ bm ≠ builtinsNs ∧ s.heap.get? bm = some ob ∧ ob.cls = .type "module" ∧ ob.dict = some builtinsNs ∧ ob.data = .plain)
    (ht : ∀ b ∈ tabA K, s.heap.get? b = some tab0 ∧ K.lookup b = none) (ha : s.heap.get? a = some { cls := .type "list", data := .seq vs.toArray })
    (hi : IntsAre vs ns) (hl : ns.length ≤ sizeLine) (hr : Room k callerA) (F : ∀ base : Heap, K.In base → base.Ns mainGlobals mg → BaseT K mg base → FnG P w K mg base C k fa fd [x] sp) (hbind : ∀ (s : Shared) (u : Value), BindsTo s fd ⟨[u], []⟩ [(x, u)])
    (hsp : ∀ H : Hp, OnlyT K H → (∀ b ∈ tabA K, H b = some (.tbl #[])) → SqL K H a (ns.map V.int) → sp [.ref a] H (fun v _ => v = .bl true) fun _ _ _ => False) (hCX : ∀ H e s', C [] H s (fun _ _ _ => False) e s' → False) :
    codeAny (model P w) callerA (.call (.ref fa) ⟨[.ref a], []⟩) (fun r z => r = .ok (.ret (.bool true)) ∧ OldK s.heap z.heap ∧ z.os = s.os ∧ AllBare z.gens) s := by
  have rv := vals_ints hi
  have na : a ∉ tabA K := fun z => by
    have e := (ht a z).1
    rw [ha] at e; cases e
  let H0 : Hp := fun b => if b ∈ tabA K then some (.tbl #[]) else none
  have H0t : ∀ b, b ∈ tabA K → H0 b = some (.tbl #[]) := fun b h => if_pos h
  have H0n : ∀ b, b ∉ tabA K → H0 b = none := fun b h => if_neg h
  cases hk : K.lookup a with
  | some o =>
    have e := KX a o hk
    rw [ha] at e; cases e
    refine law_fromT KX hns hb hbb hlim hg hbm ht ha hr F hbind hsp hCX H0 (fun b => ?_) H0t (.inr ⟨_, vs.toArray, _, hk, rfl, rfl, rfl, by rw [List.size_toArray, hi.length]; exact hl, by simpa using rv⟩) (fun b u z => ?_) (fun b z => ?_) fun z => absurd (H0n a na) z
    · by_cases h : b ∈ tabA K
      · exact .inr (.inl ⟨h, H0t b h⟩)
      · exact .inl (H0n b h)
    · by_cases h : b ∈ tabA K
      · rw [H0t b h] at z; cases z
        exact (ht b h).1
      · rw [H0n b h] at z; cases z
    · exact .inr (Classical.byContradiction fun h => z (H0n b h))
  | none =>
    let H : Hp := fun b => if b = a then some (.frz { cls := .type "list", data := .seq vs.toArray } (.lst (ns.map V.int))) else H0 b
    have Ha : H a = some (.frz { cls := .type "list", data := .seq vs.toArray } (.lst (ns.map V.int))) := if_pos rfl
    have Hn : ∀ b, b ≠ a → H b = H0 b := fun b n => if_neg n
    have nt : ∀ b, b ∈ tabA K → b ≠ a := fun b h z => na (z ▸ h)
    refine law_fromT KX hns hb hbb hlim hg hbm ht ha hr F hbind hsp hCX H (fun b => ?_) (fun b h => by rw [Hn b (nt b h)]; exact H0t b h) (.inl (.inr ⟨_, Ha⟩)) (fun b u z => ?_) (fun b z => ?_) fun _ => hk
    · by_cases h : b = a
      · exact .inr (.inr (by rw [h]; exact ⟨_, _, Ha⟩))
      · rw [Hn b h]
        by_cases h2 : b ∈ tabA K
        · exact .inr (.inl ⟨h2, H0t b h2⟩)
        · exact .inl (H0n b h2)
    · by_cases h : b = a
      · subst h
        rw [Ha] at z; cases z
        exact ⟨ha, by rw [List.length_map]; exact hl, vs, _, rv, ha⟩
      · rw [Hn b h] at z
        by_cases h2 : b ∈ tabA K
        · rw [H0t b h2] at z; cases z
          exact (ht b h2).1
        · rw [H0n b h2] at z; cases z
    · by_cases h : b = a
      · exact .inl h
      · exact .inr (Classical.byContradiction fun h2 => z (by rw [Hn b h]; exact H0n b h2))
end
theorem walkT {l : PySem.W.OpenLaw} {n k : Nat} {q : Program} {loose : List Str} {XP : (Str → Option Value) → Heap → Prop} {YP : World → Heap → Prop} {d : DefRec} {x : Str} (hn : l.most = some n) (hn2 : n ≤ sizeLine) (hdf : d.params.defaults = []) (hr : Room k callerA)
    (F : ∀ (w : World) (mg : Str → Option Value) (fa : Addr) (h : Heap), YP w h → h.Ns mainGlobals mg → mg d.name = some (.ref fa) → ∃ (K : PySem.W.Frag) (fd : FuncData) (sp : Sp), K.In h ∧ (∀ b ∈ tabA K, h.get? b = some tab0 ∧ K.lookup b = none) ∧ (∀ (s : Shared) (u : Value), BindsTo s fd ⟨[u], []⟩ [(x, u)]) ∧
      (∀ (H : Hp) (a : Addr) (ns : List Int), ns.length ≤ n → OnlyT K H → (∀ b ∈ tabA K, H b = some (.tbl #[])) → SqL K H a (ns.map V.int) → sp [.ref a] H (fun v _ => v = .bl true) fun _ _ _ => False) ∧
      ∀ base : Heap, K.In base → base.Ns mainGlobals mg → BaseT K mg base → FnG l.prog w K mg base (L2.CX l.prog w) k fa fd [x] sp) : PySem.W.WalkO q loose XP YP l.row.toRowW d [] (fun f vs => PySem.call f vs) :=
  Att.attach_call hn hdf fun w s₀ s₁ mg mb fa o pm cd doc a vs ns G Y ho hd hcd hmg hobj hints hlen hg => by
    obtain ⟨K, fd, sp, KX, ht, hb, hsp, hF⟩ := F w mg fa _ Y G.T.g hmg
    exact lawT KX G.T.g G.T.b G.T.builtins G.T.nolimit hg G.T.bmain ht hobj hints (Nat.le_trans hlen hn2) hr hF hb (fun H hO hT hS => hsp H a ns hlen hO hT hS) fun H e s' ⟨_, _, _, _, _, _, _, _, _, _, _, _, z⟩ => z
/-- the end of a law -/
theorem law_finT {P : Program} {w : World} {K : PySem.W.Frag} {mg : Str → Option Value} {h : Heap} {fa : Addr} {k : Nat} {x : Str} {st : Stmt} (KX : K.In h) (ht : ∀ b ∈ tabA K, h.get? b = some tab0 ∧ K.lookup b = none) (T : DefAt K mg "law" st) (hmg : mg "law" = some (.ref fa))
    (hbi : ∀ (kV doc pm : Value) (an : Option Addr) (cdv ct : Value) (us : List Value), us.length = ([x] : List Str).length → bindArgs (PySem.W.fnOf "law" "law" (defArgs st) (defBody st) (defScope st) .none kV doc pm an cdv ct) ⟨us, []⟩ = pure (([x] : List Str).zip us))
    (A : ∀ base : Heap, K.In base → BaseT K mg base → FnAt P w K mg base k "law" [x] spLaw) :
    ∃ (K : PySem.W.Frag) (fd : FuncData) (sp : Sp), K.In h ∧ (∀ b ∈ tabA K, h.get? b = some tab0 ∧ K.lookup b = none) ∧ (∀ (s : Shared) (u : Value), BindsTo s fd ⟨[u], []⟩ [(x, u)]) ∧
        (∀ (H : Hp) (a : Addr) (ns : List Int), ns.length ≤ 63 → OnlyT K H → (∀ b ∈ tabA K, H b = some (.tbl #[])) → SqL K H a (ns.map V.int) → sp [.ref a] H (fun v _ => v = .bl true) fun _ _ _ => False) ∧
        ∀ base : Heap, K.In base → base.Ns mainGlobals mg → BaseT K mg base → FnG P w K mg base (L2.CX P w) k fa fd [x] sp := by
  obtain ⟨f, fd, F, hf⟩ := T
  have e : f = fa := by
    rw [hmg] at hf; cases hf; rfl
  subst e
  refine ⟨K, fd, toSp K mg spLaw, KX, ht, fun s u => F.bindsA hbi s [u] rfl, fun H a ns hl hO hT hS => law_inT hl hO hT hS, fun base KB _ B => ?_⟩
  obtain ⟨f', fd', G, hf', _, _, oc, od, osl, lk⟩ := A base KB B
  have e : f' = f := by
    rw [hmg] at hf'; cases hf'; rfl
  subst e
  obtain ⟨oc2, od2, dV, kV, doc, pm, an, cdv, ct, osl2, e2, lk2, _⟩ := F.ex
  rw [lk] at lk2
  cases lk2
  exact G
/-! ### the hook -/
def tabsB (g : Addr → Option Obj) (K : PySem.W.Frag) : Bool := ((tabA K).all fun b => match g b with
  | some o => He.emptyTab o
  | none => false) && decide (tabA K).Nodup
def obsT (g : Addr → Option Obj) (fa : List He.Fa) (fn : List He.DefD) (tc : TupC) (K : PySem.W.Frag) : He.AlD × Bool := (He.obsD fa fn K, (statK K && tc.all fun t => tupN K t.1 t.2) && tabsB g K)
def obsTG (n : Nat) (fa : List He.Fa) (fn : List He.DefD) (tc : TupC) (g : Addr → Option Obj) : He.AlD × Bool := obsT g fa fn tc (He.frT g (He.asD g n ++ [sysModules, cStatics]))
/-- what the head leaves -/
def SaysT (fa : List He.Fa) (fn : List He.DefD) (tc : TupC) (K : PySem.W.Frag) (h : Heap) : Prop := SaysU fa fn tc K ∧ (tabA K).Nodup ∧ ∀ b ∈ tabA K, h.get? b = some tab0 ∧ K.lookup b = none
theorem saysT_of {n : Nat} {fa : List He.Fa} {fn : List He.DefD} {tc : TupC} {s : Shared} (e : obsTG n fa fn tc s.heap.get? = (He.valD fn, true)) : SaysT fa fn tc (He.frT s.heap.get? (He.asD s.heap.get? n ++ [sysModules, cStatics])) s.heap := by
  have e1 := congrArg (fun z : He.AlD × Bool => z.1) e
  have e2 : ((statK (He.frT s.heap.get? (He.asD s.heap.get? n ++ [sysModules, cStatics])) && tc.all fun t => tupN (He.frT s.heap.get? (He.asD s.heap.get? n ++ [sysModules, cStatics])) t.1 t.2) && tabsB s.heap.get? (He.frT s.heap.get? (He.asD s.heap.get? n ++ [sysModules, cStatics]))) = true := congrArg (fun z : He.AlD × Bool => z.2) e
  rw [Bool.and_eq_true] at e2
  obtain ⟨e2, e3⟩ := e2
  unfold tabsB at e3
  rw [Bool.and_eq_true] at e3
  refine ⟨Prod.ext e1 e2, of_decide_eq_true e3.2, fun b hb => ?_⟩
  have e4 := List.all_eq_true.mp e3.1 b hb
  cases q : s.heap.get? b with
  | none => rw [q] at e4; cases e4
  | some o =>
    rw [q] at e4
    have e4 : He.emptyTab o = true := e4
    exact ⟨by rw [He.emptyTab_eq e4], He.frT_none q e4⟩
end Mn

namespace Mn
open PySem PySem.Spec PyProof.Rows L2 NdefX
/-! ### cells lent to a callee: frozen while it runs -/
abbrev xT : HO := .ext fun _ => True
structure Lent (S : Addr → Option Obj) (H0 H1 : Hp) : Prop where
  inn : ∀ b o, S b = some o → H0 b = none ∧ H1 b = some (.frz o xT)
  out : ∀ b, S b = none → H1 b = H0 b
def lendH (S : Addr → Option Obj) (H : Hp) : Hp := fun b => match S b with
  | some o => some (.frz o xT)
  | none => H b
def giveH (S : Addr → Option Obj) (H : Hp) : Hp := fun b => match S b with
  | some _ => none
  | none => H b
theorem Lent.lend {S : Addr → Option Obj} {H : Hp} (h : ∀ b o, S b = some o → H b = none) : Lent S H (lendH S H) :=
  ⟨fun b o e => ⟨h b o e, by unfold lendH; rw [e]⟩, fun b e => by unfold lendH; rw [e]⟩
theorem Lent.give {S : Addr → Option Obj} {H : Hp} (h : ∀ b o, S b = some o → H b = some (.frz o xT)) : Lent S (giveH S H) H :=
  ⟨fun b o e => ⟨by unfold giveH; rw [e], h b o e⟩, fun b e => by unfold giveH; rw [e]⟩
/-- all but lent things are the same -/
def Agr (H H' : Hp) : Prop := ∀ b o, H b = some o → (∀ ob φ, o ≠ .frz ob (.ext φ)) → H' b = some o
section
variable {S : Addr → Option Obj} {H0 H1 H0' H1' : Hp}
theorem Lent.some0 (L : Lent S H0 H1) {b : Addr} {o : HO} (e : H0 b = some o) : S b = none := by
  cases q : S b with
  | none => rfl
  | some ob => rw [(L.inn b ob q).1] at e; cases e
theorem Lent.up (L : Lent S H0 H1) {b : Addr} {o : HO} (e : H0 b = some o) : H1 b = some o := by rw [L.out b (L.some0 e)]; exact e
theorem Lent.none1 (L : Lent S H0 H1) {b : Addr} (e : H1 b = none) : H0 b = none := by
  cases q : S b with
  | none => rw [← L.out b q]; exact e
  | some ob => exact (L.inn b ob q).1
theorem Lent.agU (L : Lent S H0 H1) : Agr H0 H1 := fun _ _ e _ => L.up e
theorem Lent.down (L : Lent S H0 H1) {b : Addr} {o : HO} (e : H1 b = some o) (n : ∀ ob φ, o ≠ .frz ob (.ext φ)) : H0 b = some o := by
  cases q : S b with
  | none => rw [← L.out b q]; exact e
  | some ob =>
    rw [(L.inn b ob q).2] at e
    exact absurd (Option.some.inj e).symm (n _ _)
theorem Lent.agD (L : Lent S H0 H1) : Agr H1 H0 := fun _ _ e n => L.down e n
end
theorem sqt_agr {K : PySem.W.Frag} {H H' : Hp} {p : Addr} {vs : List V} (a : Agr H H') (h : SqT K H p vs) : SqT K H' p vs := by
  rcases h with (h | ⟨o, h⟩) | h
  · exact .inl (.inl (a _ _ h fun _ _ z => by cases z))
  · exact .inl (.inr ⟨o, a _ _ h fun _ _ z => by cases z⟩)
  · exact .inr h
theorem code_ne {c : Addr} {q : Str} : ∀ ob φ, LamX.CodeO c q ≠ .frz ob (.ext φ) := fun ob φ z => by unfold LamX.CodeO at z; cases z
theorem FnVal.agr {K : PySem.W.Frag} {H H' : Hp} {f : Addr} (a : Agr H H') (h : FnVal K H f) : FnVal K H' f := by
  rcases h with ⟨o, fd, c, e1, e2, e3, e4⟩ | h
  · exact .inl ⟨o, fd, c, a _ _ e1 fun _ _ z => (by cases z), e2, e3, a _ _ e4 code_ne⟩
  · exact .inr h
mutual
theorem Rep.agr {K : PySem.W.Frag} {H H' : Hp} {m : Ms} (a : Agr H H') : ∀ (d : D) (v : V), Rep K H m d v → Rep K H' m d v
  | .non, v, h => by unfold Rep at h ⊢; exact h
  | .bl _, v, h => by unfold Rep at h ⊢; exact h
  | .int _, v, h => by unfold Rep at h ⊢; exact h
  | .str _, v, h => by unfold Rep at h ⊢; exact h
  | .ref _, v, h => by unfold Rep at h ⊢; exact h
  | .tup xs, v, h => by
    unfold Rep at h ⊢
    obtain ⟨p, vs, e, q, r⟩ := h
    exact ⟨p, vs, e, sqt_agr a q, RepL.agr a xs vs r⟩
  | .lst xs, v, h => by
    unfold Rep at h ⊢
    obtain ⟨p, vs, e, n, q, r⟩ := h
    exact ⟨p, vs, e, n, a _ _ q fun _ _ z => (by cases z), RepL.agr a xs vs r⟩
  | .dct ks ds, v, h => by
    unfold Rep at h ⊢
    obtain ⟨p, vs, e, n, q, l, r⟩ := h
    exact ⟨p, vs, e, n, a _ _ q fun _ _ z => (by cases z), l, RepL.agr a ds vs r⟩
  | .frz xs, v, h => by
    unfold Rep at h ⊢
    obtain ⟨p, vs, e, q, r⟩ := h
    refine ⟨p, vs, e, ?_, RepL.agr a xs vs r⟩
    rcases q with ⟨o, q⟩ | q
    · exact .inl ⟨o, a _ _ q fun _ _ z => by cases z⟩
    · exact .inr q
  | .clo f ws xs, v, h => by
    unfold Rep at h ⊢
    exact ⟨h.1, h.2.1.agr a, RepL.agr a xs ws h.2.2⟩
  | .fn _, v, h => by unfold Rep at h ⊢; exact h
  | .exn e dx ns xs, v, h => by
    unfold Rep at h ⊢
    obtain ⟨h1, vs, q, r⟩ := h
    refine ⟨h1, vs, q.imp id fun ⟨p, fs, e1, e2, e3⟩ => ⟨p, fs, e1, a _ _ e2 fun _ _ z => (by cases z), e3⟩, RepL.agr a xs vs r⟩
theorem RepL.agr {K : PySem.W.Frag} {H H' : Hp} {m : Ms} (a : Agr H H') : ∀ (ds : List D) (vs : List V), RepL K H m ds vs → RepL K H' m ds vs
  | [], vs, h => by unfold RepL at h ⊢; exact h
  | d :: ds, vs, h => by
    unfold RepL at h ⊢
    obtain ⟨v, r, e, h1, h2⟩ := h
    exact ⟨v, r, e, Rep.agr a d v h1, RepL.agr a ds r h2⟩
end
theorem tabs_agr {T : List (Addr × Str)} {H H' : Hp} (a : Agr H H') (t : LamX.Tabs T H) : LamX.Tabs T H' := fun p hp => by
  obtain ⟨ps, h1, h2, h3⟩ := t p hp
  refine ⟨ps, a _ _ h1 fun _ _ z => (by cases z), h2, fun pos cv hc => ?_⟩
  obtain ⟨c, e1, e2⟩ := h3 pos cv hc
  exact ⟨c, e1, a _ _ e2 code_ne⟩
theorem Wd.agr {K : PySem.W.Frag} {H H' : Hp} {hc : CH} {m : Ms} (a : Agr H H') (w : Wd K H hc m) : Wd K H' hc m :=
  ⟨tabs_agr a w.tab, fun b z => let ⟨vs, e⟩ := w.mu b z; ⟨vs, a _ _ e fun _ _ z => by cases z⟩, w.hm, fun b ds e => let ⟨vs, e1, r⟩ := w.heap b ds e; ⟨vs, a _ _ e1 fun _ _ z => (by cases z), RepL.agr a _ _ r⟩⟩
section
variable {S : Addr → Option Obj} {H0 H1 H0' H1' : Hp} {K : PySem.W.Frag} {hc hc' : CH} {m m' : Ms}
theorem Lent.exD (L : Lent S H0 H1) (L' : Lent S H0' H1') (x : Ex K ⟨H1, hc, m⟩ H1' hc' m') : Ex K ⟨H0, hc, m⟩ H0' hc' m' := by
  refine ⟨x.toWd.agr L'.agD, fun b z => ?_, x.ehm, fun p o e t n => ?_, fun p z => ?_, x.hold, fun p ds e => ?_, fun p o e => ?_⟩
  · obtain ⟨vs, e⟩ := x.emut b z
    exact ⟨vs, L.down e fun _ _ z => by cases z⟩
  · have e : H0 p = some o := e
    have q := x.keep p o (L.up e) t n
    rw [L'.out p (L.some0 e)] at q
    exact q
  · exact (x.grow p z).imp id fun y => L.none1 y
  · exact (x.hgrow p ds e).imp id fun y => L.none1 y
  · have e : H0 p = some o := e
    have q := x.live p o (L.up e)
    rw [L'.out p (L.some0 e)] at q
    exact q
theorem Lent.exU (L : Lent S H0 H1) (L' : Lent S H0' H1') (x : Ex K ⟨H0, hc, m⟩ H0' hc' m') : Ex K ⟨H1, hc, m⟩ H1' hc' m' := by
  have notS : ∀ p, m' p → S p = none := fun p z => by
    obtain ⟨vs, e⟩ := x.mu p z
    exact L'.some0 e
  refine ⟨x.toWd.agr L'.agU, fun b z => ?_, x.ehm, fun p o e t n => ?_, fun p z => ?_, x.hold, fun p ds e => ?_, fun p o e => ?_⟩
  · obtain ⟨vs, e⟩ := x.emut b z
    exact ⟨vs, L.up e⟩
  · have e : H1 p = some o := e
    cases q : S p with
    | none =>
      rw [L.out p q] at e
      exact L'.up (x.keep p o e t n)
    | some ob =>
      rw [(L.inn p ob q).2] at e
      rw [(L'.inn p ob q).2]
      exact e
  · refine (x.grow p z).imp id fun y => ?_
    show H1 p = none
    rw [L.out p (notS p z)]
    exact y
  · refine (x.hgrow p ds e).imp id fun y => ?_
    show H1 p = none
    rw [L.out p (notS p (x.hm p ds e))]
    exact y
  · have e : H1 p = some o := e
    cases q : S p with
    | none =>
      rw [L.out p q] at e
      rw [L'.out p q]
      exact x.live p o e
    | some ob =>
      rw [(L'.inn p ob q).2]
      simp
variable {P : Program} {w : World} {h h' : Heap} {fs : List Addr}
theorem Lent.okU (L : Lent S H0 H1) (at_ : ∀ b o, S b = some o → h.get? b = some o) (k : HOk P w H0 h) : HOk P w H1 h := fun b o e => by
  cases q : S b with
  | none =>
    rw [L.out b q] at e
    exact (k b o e).stay (fun _ _ _ r => r) (fun _ r => L.up r) fun _ _ r => L.up r
  | some ob =>
    rw [(L.inn b ob q).2] at e
    cases e
    exact ⟨at_ b ob q, trivial, ⟨_, at_ b ob q⟩, fun _ _ _ _ => trivial⟩
theorem Lent.okD (L : Lent S H0 H1) (k : HOk P w H1 h) : HOk P w H0 h := fun b o e =>
  (k b o (L.up e)).stay (fun _ _ _ r => r) (fun _ r => L.down r fun _ _ z => by cases z) fun _ _ r => L.down r fun _ _ z => by cases z
theorem Lent.at1 (L : Lent S H0 H1) (k : HOk P w H1 h) {b : Addr} {o : Obj} (e : S b = some o) : h.get? b = some o := (k b _ (L.inn b o e).2).1
theorem Lent.unD (L : Lent S H0 H1) (L' : Lent S H0' H1') (nf : ∀ b o, S b = some o → b ∉ fs) (a : ∀ b o, S b = some o → h.get? b = some o ∧ h'.get? b = some o) (u : Un fs [] H1 H1' h h') : Un fs [] H0 H0' h h' := by
  refine ⟨fun b o e n hb hx => ?_, fun b o e n hb hx => ?_, fun b o e n hx => ?_, u.there, fun b xs e => ?_, fun b o x e => ?_, fun b ps e => ?_⟩
  · cases q : S b with
    | none => exact u.keep b o e (by rw [L.out b q]; exact n) hb hx
    | some ob =>
      obtain ⟨e1, e2⟩ := a b ob q
      rw [e] at e1; cases e1
      exact e2
  · cases q : S b with
    | none => exact u.slot b o e (by rw [L.out b q]; exact n) hb hx
    | some ob => exact absurd hb (nf b ob q)
  · cases q : S b with
    | none => exact L'.none1 (u.free b o e (by rw [L.out b q]; exact n) hx)
    | some ob => exact (L'.inn b ob q).1
  · have z := u.tups b xs (L.up e)
    rw [L'.out b (L.some0 e)] at z
    exact z
  · have z := u.frzs b o x (L.up e)
    rw [L'.out b (L.some0 e)] at z
    exact z
  · obtain ⟨more, z⟩ := u.tbls b ps (L.up e)
    rw [L'.out b (L.some0 e)] at z
    exact ⟨more, z⟩
theorem Lent.unU (L : Lent S H0 H1) (L' : Lent S H0' H1') (u : Un fs [] H0 H0' h h') : Un fs [] H1 H1' h h' := by
  have n0 : ∀ {b : Addr}, H1 b = none → S b = none := fun {b} n => by
    cases q : S b with
    | none => rfl
    | some ob => rw [(L.inn b ob q).2] at n; cases n
  refine ⟨fun b o e n hb hx => u.keep b o e (L.none1 n) hb hx, fun b o e n hb hx => u.slot b o e (L.none1 n) hb hx, fun b o e n hx => ?_, u.there, fun b xs e => ?_, fun b o x e => ?_, fun b ps e => ?_⟩
  · rw [L'.out b (n0 n)]
    exact u.free b o e (L.none1 n) hx
  · exact L'.up (u.tups b xs (L.down e fun _ _ z => by cases z))
  · cases q : S b with
    | none =>
      rw [L.out b q] at e
      exact L'.up (u.frzs b o x e)
    | some ob =>
      rw [(L.inn b ob q).2] at e
      cases e
      exact (L'.inn b _ q).2
  · obtain ⟨more, z⟩ := u.tbls b ps (L.down e fun _ _ z => by cases z)
    exact ⟨more, L'.up z⟩
end
section
variable {S : Addr → Option Obj} {H0 H1 H0' H1' : Hp} {P : Program} {w : World} {h B h' : Heap} {fs : List Addr}
theorem Lent.ubD (L : Lent S H0 H1) (L' : Lent S H0' H1') (nf : ∀ b o, S b = some o → b ∉ fs) (a : ∀ b o, S b = some o → h.get? b = some o ∧ B.get? b = some o) (u : UB fs H1 H1' h B h') : UB fs H0 H0' h B h' := by
  refine ⟨fun b o e n hb => ?_, u.slot, fun b o e n => ?_, u.there, fun b xs e => ?_, fun b o x e => ?_, fun b ps e => ?_⟩
  · cases q : S b with
    | none => exact u.keep b o e (by rw [L.out b q]; exact n) hb
    | some ob =>
      obtain ⟨e1, e2⟩ := a b ob q
      rw [e] at e1; cases e1
      exact e2
  · cases q : S b with
    | none => exact L'.none1 (u.free b o e (by rw [L.out b q]; exact n))
    | some ob => exact (L'.inn b ob q).1
  · have z := u.tups b xs (L.up e)
    rw [L'.out b (L.some0 e)] at z
    exact z
  · have z := u.frzs b o x (L.up e)
    rw [L'.out b (L.some0 e)] at z
    exact z
  · obtain ⟨more, z⟩ := u.tbls b ps (L.up e)
    rw [L'.out b (L.some0 e)] at z
    exact ⟨more, z⟩
theorem Lent.ubU (L : Lent S H0 H1) (L' : Lent S H0' H1') (u : UB fs H0 H0' h B h') : UB fs H1 H1' h B h' := by
  have n0 : ∀ {b : Addr}, H1 b = none → S b = none := fun {b} n => by
    cases q : S b with
    | none => rfl
    | some ob => rw [(L.inn b ob q).2] at n; cases n
  refine ⟨fun b o e n hb => u.keep b o e (L.none1 n) hb, u.slot, fun b o e n => ?_, u.there, fun b xs e => ?_, fun b o x e => ?_, fun b ps e => ?_⟩
  · rw [L'.out b (n0 n)]
    exact u.free b o e (L.none1 n)
  · exact L'.up (u.tups b xs (L.down e fun _ _ z => by cases z))
  · cases q : S b with
    | none =>
      rw [L.out b q] at e
      exact L'.up (u.frzs b o x e)
    | some ob =>
      rw [(L.inn b ob q).2] at e
      cases e
      exact (L'.inn b _ q).2
  · obtain ⟨more, z⟩ := u.tbls b ps (L.down e fun _ _ z => by cases z)
    exact ⟨more, L'.up z⟩
/-- an exception out of a callee that was lent cells -/
theorem Lent.cxD (L : Lent S H0 H1) {s s' : Shared} {outer : List Env} {E E' : XK} {u : Value} (nf : ∀ b o, S b = some o → b ∉ frs outer) (a : ∀ b o, S b = some o → s.heap.get? b = some o) (c : L2.CX P w outer H1 s E u s')
    (hE : ∀ cls d H', Lent S (giveH S H') H' → E cls d H' → E' cls d (giveH S H')) : L2.CX P w outer H0 s E' u s' := by
  obtain ⟨e, B, H', cls, d, rfl, fl, hok, ub, na, os, ag, he⟩ := c
  have L' : Lent S (giveH S H') H' := .give fun b ob q => ub.frzs b ob xT (L.inn b ob q).2
  exact ⟨e, B, _, cls, d, rfl, fl, L'.okD hok, L.ubD L' nf (fun b o q => ⟨a b o q, L'.at1 hok q⟩) ub, L'.none1 na, os, ag, hE cls d H' L' he⟩
theorem Lent.cxU (L : Lent S H0 H1) {s s' : Shared} {outer : List Env} {E E' : XK} {u : Value} (nf : ∀ b o, S b = some o → b ∉ frs outer) (a : ∀ b o, S b = some o → s.heap.get? b = some o) (c : L2.CX P w outer H0 s E u s')
    (hE : ∀ cls d H', Lent S H' (lendH S H') → E cls d H' → E' cls d (lendH S H')) : L2.CX P w outer H1 s E' u s' := by
  obtain ⟨e, B, H', cls, d, rfl, fl, hok, ub, na, os, ag, he⟩ := c
  have nS : ∀ b o, S b = some o → H' b = none := fun b o q => ub.free b o (a b o q) (L.inn b o q).1
  have L' : Lent S H' (lendH S H') := .lend nS
  have kB : ∀ b o, S b = some o → B.get? b = some o := fun b o q => ub.keep b o (a b o q) (L.inn b o q).1 (nf b o q)
  refine ⟨e, B, _, cls, d, rfl, fl, L'.okU kB hok, L.ubU L' ub, ?_, os, ag, hE cls d H' L' he⟩
  rw [L'.out e ?_]
  · exact na
  · cases q : S e with
    | none => rfl
    | some o =>
      have z := kB e o q
      rw [fl.2.1] at z; cases z
end
theorem RepXK.agr {K : PySem.W.Frag} {mg : Str → Option Value} {H H' : Hp} {m : Ms} {x : Exn} {cls : Value} {d : Option Addr} (a : Agr H H') (h : RepXK K mg H m x cls d) : RepXK K mg H' m x cls d :=
  ⟨h.1, h.2.imp id fun ⟨dx, fs, e1, e2, e3, e4⟩ => ⟨dx, fs, e1, a _ _ e2 fun _ _ z => (by cases z), e3, RepL.agr a _ _ e4⟩⟩
/-! ### a function as a value -/
/-- what is frozen stays -/
def Fz (H H2 : Hp) : Prop := ∀ b o u, H b = some (.frz o u) → H2 b = some (.frz o u)
/-- a promise of a function that captured some values -/
abbrev Spf := List D → Spc
def toSpC (K : PySem.W.Frag) (mg : Str → Option Value) (φ : Spf) (f : Addr) (ws : List V) (xs : List D) : Sp := fun vs H Q E => ∃ hc m ds P PE, Wd K H hc m ∧ Rep K H m (.clo f ws xs) (.ref f) ∧ RepL K H m ds vs ∧ φ xs ds hc P PE ∧
  (∀ d hc', P d hc' → ∀ v H' m', Ex K ⟨H, hc, m⟩ H' hc' m' → Rep K H' m' d v → Q v H') ∧
  (∀ x hc', PE x hc' → ∀ cls dx H' m', Ex K ⟨H, hc, m⟩ H' hc' m' → RepXK K mg H' m' x cls dx → E cls dx H')
/-- the function at f keeps the promise wherever what is frozen in H stands -/
structure Clo (P : Program) (w : World) (K : PySem.W.Frag) (mg : Str → Option Value) (base : Heap) (k : Nat) (H : Hp) (f : Addr) (ws : List V) (φ : Spf) : Prop where
  run : ∀ (A : Around) (outer : List Env) (s : Shared) (H2 : Hp) (us : List Value) (vs : List V) (xs : List D) (Q : VK) (E : XK), RG k A → Env0 P w K mg base A outer s H2 → Fz H H2 → Vals vs us → toSpC K mg φ f ws xs vs H2 Q E →
    codeAny (model P w) A (.call (.ref f) ⟨us, []⟩) (CR (L2.CX P w) outer P w H2 s Q E) s
  fn : K.lookup f ≠ none → ∃ oc od fd sl, K.lookup f = some ⟨oc, od, .func fd, sl⟩
theorem FnVal.at_ {P : Program} {w : World} {K : PySem.W.Frag} {H : Hp} {f : Addr} {h : Heap} (x : FnVal K H f) (k : HOk P w H h) (KX : K.In h) (fn : K.lookup f ≠ none → ∃ oc od fd sl, K.lookup f = some ⟨oc, od, .func fd, sl⟩) : PySem.W.FnAt f h := by
  rcases x with ⟨o, fd, c, e1, e2, _⟩ | x
  · obtain ⟨oc, od, dt, sl⟩ := o
    have e2 : dt = .func fd := e2
    subst e2
    exact ⟨oc, od, fd, sl, (k f _ e1).1⟩
  · obtain ⟨oc, od, fd, sl, e⟩ := fn x
    exact ⟨oc, od, fd, sl, KX _ _ e⟩
abbrev CloR := Addr → List V → Spf → Prop
section
variable {X : Cx} {W : WX} {e : Expr} {es : List Expr} {c : CAx} {p pos : Pos} {i : Nat} {x : Str}
/-- f(..), f the function in slot i -/
def cCallV (Γ : CloR) (i : Nat) (c : CAx) : CEx := fun E sc hc P => match look sc i with
  | some (.clo f ws xs) => ∃ φ, Γ f ws φ ∧ c E sc hc fun ds hc1 => φ xs ds hc1 P fun x hc2 => E x sc hc2
  | _ => False
theorem ce_callV {k kc : Nat} {Γ : CloR} (hΓ : ∀ f ws φ, Γ f ws φ → Clo X.prog X.w X.K X.mg X.base kc X.H_0 f ws φ) (hr : RT k X W) (ha : CA X W (e :: es) c) (hk : kc ≤ k := by decide) (hN : X.N[i]? = some x := by rfl) (hv : Vis X.env.scope x := by first | exact Or.inl rfl | exact Or.inr (Or.inl rfl) | exact Or.inr (Or.inr rfl))
    (hd : (x == ("__debug__" : Str)) = false := by decide) (hcd : (x == ("__classdict__" : Str)) = false := by decide)
    (he : starEach (e :: es) X.env = (false, eval e X.env) :: starEach es X.env := by rfl) (hpl : (backTo pos (starEach es X.env)).any (·.1) = false := by rfl) : CE X W (.Call (.Name x p) (e :: es) [] pos) (cCallV Γ i c) := by
  refine ⟨⟨fun pins s σ H Q I ⟨en, sc, hc, m, E, P, r, kk, xo, fin⟩ => ?_⟩⟩
  unfold cCallV at kk
  split at kk
  case h_2 => exact kk.elim
  rename_i f ws xs el
  obtain ⟨φ, hφ, kk⟩ := kk
  obtain ⟨v0, e1, q0⟩ := r.slot i _ (look_get el)
  have q1 := q0
  unfold Rep at q1
  obtain ⟨rfl, fv, rl⟩ := q1
  have cl := hΓ f ws φ hφ
  refine wpAny_Call_Name_kw (thn ((pe_var (pos := p) hN hv hd hcd).run pins s σ H (fun v H1 => v = .ref f ∧ H1 = H) I ⟨.ref f, e1, rfl, rfl⟩) fun u s1 ⟨v, H1, I1, r1, q1⟩ => ?_)
  obtain ⟨rfl, rfl⟩ := q1
  cases r1
  refine PySem.W.callWith_F (first := []) (fv.at_ I1.hok I1.kIn cl.fn) (thn (ha.p.run pos pins s1 σ _ (fun vs H2 => FnVal X.K H2 f ∧ toSpC X.K X.mg φ f ws xs vs H2 Q (fun cls d H' => W cls d σ H')) I1 ⟨en, sc, hc, m, E, _, r, kk, xo, fun ds hc1 hp vs H2 m2 x2 q2 => ?_⟩) fun us s2 ⟨vs, H2, I2, rr, fv2, q⟩ => ⟨fv2.at_ I2.hok I2.kIn cl.fn, ?_⟩) he hpl
  · have q3 := Rep.mono r.mu x2.stp _ _ q0
    have q4 := q3
    unfold Rep at q4
    exact ⟨q4.2.1, hc1, m2, ds, P, _, x2.toWd, q3, q2, hp, fun d hc' pd v H' m' x q => fin d hc' pd v H' m' (x2.trans x) q, fun y hc' py cls dx H' m' x q => xo y sc hc' py cls dx σ H' m' (r.call (x2.trans x)) q⟩
  · show wpAny _ _ (call (.ref f) us) _ _ _
    refine wpAny_call (codeAny_mono (cl.run X.A X.stack s2 H2 us vs xs Q _ (hr.g.mono hk) I2.env0 (fun b o u z => I2.base.frzs b o u z) rr q) fun z s' hq => ?_)
    match z, hq with
    | .error e, hq => exact hr.t e s' (XE.of_call I2 (fun _ _ _ z => z) hq)
    | .ok (.ret u), hq => exact I2.after hq
    | .ok .next, hq => exact False.elim hq
    | .ok .brk, hq => exact False.elim hq
    | .ok .cont, hq => exact False.elim hq
end
/-! ### a def that gets functions -/
def toSpH (P : Program) (w : World) (K : PySem.W.Frag) (mg : Str → Option Value) (base : Heap) (kc : Nat) (Γ : CloR) (sp : Spc) : Sp := fun vs H Q E => (∀ f ws φ, Γ f ws φ → Clo P w K mg base kc H f ws φ) ∧ toSp K mg sp vs H Q E
def FnAtH (P : Program) (w : World) (K : PySem.W.Frag) (mg : Str → Option Value) (base : Heap) (kc k : Nat) (x : Str) (ps : List Str) (sp : CloR → Spc) : Prop :=
  ∃ (f : Addr) (fd : FuncData), (∀ Γ, FnG P w K mg base (L2.CX P w) k f fd ps (toSpH P w K mg base kc Γ (sp Γ))) ∧ mg x = some (.ref f) ∧ PySem.W.keepIn K (.ref f) = true ∧ Binds K fd ps []
theorem fnH_at {P : Program} {w : World} {K : PySem.W.Frag} {mg : Str → Option Value} {base : Heap} {x : Str} {st : Stmt} {N ps : List Str} {kc k : Nat} {sp : CloR → Spc} {c : CloR → CSx} (F : DefAt K mg x st) (S : FnScope N ps (defScope st))
    (hb : ∀ (Γ : CloR) (f : Addr) (cdv : Value) (A : Around) (outer : List Env) (s : Shared) (H : Hp) (E : XK), RT k (cxD P w K mg base N x (defScope st) f cdv A outer s H E) (WE E) → (∀ f ws φ, Γ f ws φ → Clo P w K mg base kc H f ws φ) → CSs (cxD P w K mg base N x (defScope st) f cdv A outer s H E) (WE E) (defBody st) (c Γ))
    (hl : ∀ Γ ds hc Q E, sp Γ ds hc Q E → ds.length = ps.length) (hp : ∀ Γ ds hc (Q : D → CH → Prop) E, sp Γ ds hc Q E → c Γ { nx := fun _ hc' => Q .non hc', rt := Q, xp := fun x _ hc' => E x hc' } (startC N ds) hc)
    (hbi : ∀ (kV doc pm : Value) (an : Option Addr) (cdv ct : Value) (us : List Value), us.length = ps.length → bindArgs (PySem.W.fnOf x x (defArgs st) (defBody st) (defScope st) .none kV doc pm an cdv ct) ⟨us, []⟩ = pure (ps.zip us)) : FnAtH P w K mg base kc (k + 1) x ps sp := by
  obtain ⟨f, fd, F, hm⟩ := F
  refine ⟨f, fd, fun Γ => ?_, hm, F.kp, F.bindsN hbi⟩
  obtain ⟨oc, od, dV, kV, doc, pm, an, cdv, ct, osl, rfl, lk, hcd, _, _⟩ := F.ex
  refine fnG_of lk hcd S (fun vs H Q E ⟨_, hc, m, ds, P', PE, w', rl, h, _⟩ => by rw [← rl.length]; exact hl Γ ds hc _ _ h) fun A outer s H vs Q E hr ⟨hΓ, hc, m, ds, P', PE, w', rl, h, f1, f2⟩ => ⟨_, (hb Γ f cdv A outer s H E (rt_of hr) hΓ).p, ?_⟩
  exact ⟨_, _, hc, m, _, start_rs w' rl, hp Γ ds hc P' PE h, end_of f1 f2⟩
/-- it promises the same under lower functions -/
theorem FnAtH.mono {P : Program} {w : World} {K : PySem.W.Frag} {mg : Str → Option Value} {base : Heap} {kc j k : Nat} {x : Str} {ps : List Str} {sp : CloR → Spc} (h : FnAtH P w K mg base kc j x ps sp) (l : j ≤ k) : FnAtH P w K mg base kc k x ps sp := by
  obtain ⟨f, fd, a, b⟩ := h
  exact ⟨f, fd, fun Γ => (a Γ).mono l, b⟩
end Mn

namespace Mn
open PySem PySem.Spec PyProof.Rows L2 NdefX
/-! ### a lambda is made -/
structure LamMade (X : Cx) (params : Arguments) (body : Expr) (scope : Scope) (H H1 : Hp) (f c' : Addr) (o : Obj) : Prop where
  ext : LamX.ExtN H H1
  live : ∀ b, H1 b = none → H b = none
  tab : LamX.Tabs (tabsL X.K) H1
  new : H f = none
  fr : H1 f = some (.frz o (.own f))
  ob : ∃ pm ctv, o = PySem.W.kla_obj "<lambda>" (X.env.qual ++ "<lambda>") params body scope (cloFrom X.env.cells scope.names []) pm c' ctv
  code : H1 c' = some (LamX.CodeO c' (X.env.qual ++ "<lambda>"))
theorem upd_nn {H : Hp} {a b : Addr} {o : HO} (e : upd H a o b = none) : H b = none := by
  by_cases h : b = a
  · rw [h, upd_same] at e; cases e
  · rwa [upd_ne h] at e
theorem nodup_fst {α β : Type} [DecidableEq α] : ∀ {l : List (α × β)} {a : α} {b c : β}, (l.map (·.1)).Nodup → (a, b) ∈ l → (a, c) ∈ l → b = c
  | [], _, _, _, _, h, _ => by cases h
  | (x, y) :: r, a, b, c, nd, h1, h2 => by
    rw [List.map_cons, List.nodup_cons] at nd
    rcases List.mem_cons.mp h1 with e1 | h1
    · rcases List.mem_cons.mp h2 with e2 | h2
      · exact (Prod.mk.inj e1).2.trans (Prod.mk.inj e2).2.symm
      · exact absurd (List.mem_map.mpr ⟨(a, c), h2, by rw [← (Prod.mk.inj e1).1]⟩) nd.1
    · rcases List.mem_cons.mp h2 with e2 | h2
      · exact absurd (List.mem_map.mpr ⟨(a, b), h1, by rw [← (Prod.mk.inj e2).1]⟩) nd.1
      · exact nodup_fst nd.2 h1 h2
section
variable {X : Cx} {pins : List (Addr × Obj)} {σ : L2.St} {H : Hp} {s : Shared}
/-- a new object that is known and never written -/
theorem inv_frz {o : Obj} {t' : Nat} (I : Inv X pins σ H s) (e : (s.heap.push o).get? s.heap.objs.size = some o) : Inv X pins σ (upd H s.heap.objs.size (.frz o (.own s.heap.objs.size))) { s with heap := s.heap.push o, toks := t' } :=
  I.laid (a := s.heap.objs.size) (fun b u e => Heap.get?_push_of_some _ e) (Nat.le_refl _) ⟨e, _, e⟩
theorem lam_made {c P : Addr} {params : Arguments} {body : Expr} {scope : Scope} {pos : Pos} {E : Value → Shared → Prop} {Q : Value → Shared → Prop} (I : Inv X pins σ H s) (TB : LamX.TabB X.base X.mg c P) (hcode : X.env.code = .ref c)
    (hm : (P, X.env.qual ++ "<lambda>") ∈ tabsL X.K) (nd : (tabA X.K).Nodup) (hT : LamX.Tabs (tabsL X.K) H) (hdef : defaultsOf params X.env = ([], [])) (hfree : ∀ y ∈ scope.names, y.2 = .free → ∃ c, X.env.cells.lookup y.1 = some c)
    (h : ∀ (f c' : Addr) (o : Obj) (H1 : Hp) (s' : Shared), Inv X pins σ H1 s' → LamMade X params body scope H H1 f c' o → Q (.ref f) s') :
    wpAny (model X.prog X.w) X.A (eval (.Lambda params body scope pos) X.env) Q E s := by
  obtain ⟨ps, tP, tri, am⟩ := hT _ hm
  have tB : s.heap.BuiltinsAt X.mg P := TB.bm.keeps I.bk
  have tO : s.heap.get? P = some { cls := .none, data := .fields ps } := I.hok P _ tP
  refine PySem.W.kla_eval hdef ?_
  cases hit : codeAmong pos ps.toList with
  | some cv =>
    obtain ⟨c', rfl, co⟩ := am pos cv hit
    refine PySem.W.kla_makeFunctionHit (mg := X.mg) (c := c) (P := P) (ps := ps) (closure_ok hfree) I.ok.glob (I.mod.glob.keeps I.bk) hcode (TB.code.keeps I.bk) tO tri hit tB fun ctv h' tk hx hsz => ?_
    have I1 : Inv X pins σ H { s with heap := h', toks := tk } := I.kept hx
    have nf : H h'.objs.size = none := I1.hok.fresh (Nat.le_refl _)
    have nn : ∀ {b : Addr} {o : HO}, H b = some o → b ≠ h'.objs.size := fun e => ne_of_none e nf
    refine h h'.objs.size c' _ _ _ (inv_frz (t' := tk) I1 (Heap.get?_push_size _ rfl)) ⟨fun b o e _ => (upd_ne (nn e)).trans e, fun b e => upd_nn e, hT.ext fun b o e => (upd_ne (nn e)).trans e, nf, upd_same, ⟨_, ctv, rfl⟩, (upd_ne (nn co)).trans co⟩
  | none =>
    refine PySem.W.kla_makeFunction (mg := X.mg) (c := c) (P := P) (ps := ps) (closure_ok hfree) I.ok.glob (I.mod.glob.keeps I.bk) hcode (TB.code.keeps I.bk) tO tri hit TB.gP tB fun c' ctv h' tk hx hge hlt hrec htb => ?_
    obtain ⟨c2, oc, vs, t, e2, oce, ocd, ocv⟩ := hrec
    cases e2
    have nC : H c' = none := I.hok.fresh hge
    have I1 := LamX.inv_table (t' := tk) (more := #[rawInt pos.line, rawInt pos.col, .ref c']) (h' := h') I tP (fun b o hb e => hx b o hb e) htb hge ⟨oc, vs, t, oce, ocd, ocv⟩
    have old : LamX.ExtN H (upd (upd H P (.tbl (ps ++ #[rawInt pos.line, rawInt pos.col, .ref c']))) c' (LamX.CodeO c' (X.env.qual ++ "<lambda>"))) := fun b o e n => by
      have hb : b ≠ P := fun z => n ps (by rw [z, tP] at e; exact (Option.some.inj e).symm)
      rw [upd_ne (ne_of_none e nC), upd_ne hb]
      exact e
    have nf := I1.hok.fresh (Nat.le_refl _)
    have nn : ∀ {b : Addr} {o : HO}, upd (upd H P (.tbl (ps ++ #[rawInt pos.line, rawInt pos.col, .ref c']))) c' (LamX.CodeO c' (X.env.qual ++ "<lambda>")) b = some o → b ≠ h'.objs.size := fun e => ne_of_none e nf
    have cC : upd (upd H P (.tbl (ps ++ #[rawInt pos.line, rawInt pos.col, .ref c']))) c' (LamX.CodeO c' (X.env.qual ++ "<lambda>")) c' = some (LamX.CodeO c' (X.env.qual ++ "<lambda>")) := upd_same
    have T1 : LamX.Tabs (tabsL X.K) (upd (upd H P (.tbl (ps ++ #[rawInt pos.line, rawInt pos.col, .ref c']))) c' (LamX.CodeO c' (X.env.qual ++ "<lambda>"))) := fun p hp => by
      by_cases hb : p.1 = P
      · have hq : p.2 = X.env.qual ++ "<lambda>" := nodup_fst (a := P) nd (by rw [← hb]; exact hp) hm
        refine ⟨_, (upd_ne (by rw [hb]; exact ne_of_none tP nC)).trans (by rw [hb]; exact upd_same), ?_, fun p' cv hcv => ?_⟩
        · rw [Array.toList_append]
          exact PySem.TriplesOk_snoc _ _ _ _ tri
        · rw [Array.toList_append] at hcv
          rw [hq]
          rcases LamX.among_app _ tri hcv with z | z
          · obtain ⟨c0, e1, e2⟩ := am p' cv z
            exact ⟨c0, e1, old _ _ e2 LamX.codeO_ne⟩
          · exact ⟨c', z, cC⟩
      · obtain ⟨ps', a1, a2, a3⟩ := hT p hp
        refine ⟨ps', (upd_ne (ne_of_none a1 nC)).trans ((upd_ne hb).trans a1), a2, fun p' cv hcv => ?_⟩
        obtain ⟨c0, e1, e2⟩ := a3 p' cv hcv
        exact ⟨c0, e1, old _ _ e2 LamX.codeO_ne⟩
    refine h h'.objs.size c' _ _ _ (inv_frz (t' := tk) I1 (Heap.get?_push_size _ rfl)) ⟨fun b o e n => (upd_ne (nn (old b o e n))).trans (old b o e n), fun b e => upd_nn (upd_nn (upd_nn e)), T1.ext fun b o e => (upd_ne (nn e)).trans e, ?_, upd_same, ⟨_, ctv, rfl⟩, (upd_ne (nn cC)).trans cC⟩
    exact I.hok.fresh (Nat.le_trans hge (Nat.le_of_lt hlt))
theorem pe_lam {c P : Addr} {params : Arguments} {body : Expr} {scope : Scope} {pos : Pos} (TB : LamX.TabB X.base X.mg c P) (hcode : X.env.code = .ref c) (hm : (P, X.env.qual ++ "<lambda>") ∈ tabsL X.K) (nd : (tabA X.K).Nodup)
    (hdef : defaultsOf params X.env = ([], [])) (hfree : ∀ y ∈ scope.names, y.2 = .free → X.env.scope.names.lookup y.1 = some .cell ∨ X.env.scope.names.lookup y.1 = some .free) :
    PE X (.Lambda params body scope pos) (fun σ H Q => LamX.Tabs (tabsL X.K) H ∧ ∀ f c' o H1, LamMade X params body scope H H1 f c' o → Q (.ref f) H1) :=
  ⟨fun pins s σ H Q I ⟨hT, h⟩ => lam_made I TB hcode hm nd hT hdef (fun y hy e => (hfree y hy e).elim (fun z => I.ok.has _ (.inl z)) fun z => I.ok.has _ (.inr z)) fun f c' o H1 s' I1 L => ⟨.ref f, H1, I1, rfl, h f c' o H1 L⟩⟩
theorem LamMade.ex {K : PySem.W.Frag} {params : Arguments} {body : Expr} {scope : Scope} {H1 : Hp} {f c' : Addr} {o : Obj} {hc : CH} {m : Ms} (hK : K = X.K) (L : LamMade X params body scope H H1 f c' o) (w : Wd K H hc m) : Ex K ⟨H, hc, m⟩ H1 hc m := by
  subst hK
  have st : Stp H m H1 m := ⟨fun b u e t _ => L.ext b u e (nt_ne t), fun _ z => .inl z, fun b u e n => by rw [L.live b n] at e; cases e⟩
  have keepL : ∀ {b vs}, H b = some (.lst vs) → H1 b = some (.lst vs) := fun e => L.ext _ _ e fun ps z => by cases z
  refine ⟨⟨L.tab, fun b z => ?_, w.hm, fun b ds e => ?_⟩, w.mu, w.hm, fun b u e t _ => L.ext b u e (nt_ne t), fun _ z => .inl z, fun _ z _ => z, fun b ds e => .inl (by show hc b ≠ none; rw [e]; simp), fun b u e n => ?_⟩
  · obtain ⟨vs, e⟩ := w.mu b z
    exact ⟨vs, keepL e⟩
  · obtain ⟨vs, e1, q⟩ := w.heap b ds e
    exact ⟨vs, keepL e1, RepL.mono w.mu st _ _ q⟩
  · have e : H b = some u := e
    rw [L.live b n] at e; cases e
end
end Mn

namespace Mn
open PySem PySem.Spec PyProof.Rows L2 NdefX
/-! ### what a lambda captures -/
def capsOf (sc : List Sl) : List Nat → Option (List D)
  | [] => some []
  | j :: js => match look sc j, capsOf sc js with
    | some d, some ds => some (d :: ds)
    | _, _ => none
theorem caps_rep {K : PySem.W.Frag} {en : En} {σ : L2.St} {H : Hp} {sc : List Sl} {hc : CH} {m : Ms} (r : Rs K en σ H sc hc m) : ∀ {js : List Nat} {xs : List D}, capsOf sc js = some xs → ∃ ws : List V, js.map (slotAt σ) = ws.map some ∧ RepL K H m xs ws
  | [], xs, h => by
    cases h
    exact ⟨[], rfl, RepL.nil⟩
  | j :: js, xs, h => by
    unfold capsOf at h
    cases e1 : look sc j with
    | none => rw [e1] at h; cases h
    | some d =>
      cases e2 : capsOf sc js with
      | none => rw [e1, e2] at h; cases h
      | some ds =>
        rw [e1, e2] at h
        cases h
        obtain ⟨v, e3, q⟩ := r.slot j d (look_get e1)
        obtain ⟨ws, e4, q2⟩ := caps_rep r e2
        exact ⟨v :: ws, by rw [List.map_cons, List.map_cons, e4, slotAt_of e3], RepL.cons q q2⟩
/-- the captured cells' objects -/
noncomputable def cellS (cl : List (Str × Addr)) (h : Heap) : Addr → Option Obj := fun b => @ite _ (∃ y, cl.lookup y = some b) (Classical.propDecidable _) (h.get? b) none
theorem cellS_some {cl : List (Str × Addr)} {h : Heap} {b : Addr} {o : Obj} (e : cellS cl h b = some o) : (∃ y, cl.lookup y = some b) ∧ h.get? b = some o := by
  unfold cellS at e
  by_cases z : ∃ y, cl.lookup y = some b
  · rw [if_pos z] at e
    exact ⟨z, e⟩
  · rw [if_neg z] at e; cases e
theorem cellS_at {cl : List (Str × Addr)} {h : Heap} {b : Addr} {o : Obj} {y : Str} (e : cl.lookup y = some b) (e2 : h.get? b = some o) : cellS cl h b = some o := by
  unfold cellS
  rw [if_pos ⟨y, e⟩]
  exact e2
abbrev ncD (P : Program) (w : World) (K : PySem.W.Frag) (mg : Str → Option Value) (base : Heap) (N : List Str) (F : NF) (f : Addr) (A : Around) (outer : List Env) (s : Shared) (H : Hp) (E : XK) : Cx := ncx (L2.CX P w) P w K mg base N F f A outer s H E
/-- a lambda's promise: n parameters, its body read as cb -/
def lamS (n : Nat) (cb : CEx) : Spf := fun xs ds hc Q E => ds.length = n ∧ cb (fun x _ hc2 => E x hc2) (ds.map Sl.val ++ xs.map Sl.val) hc Q
theorem Clo.mono {P : Program} {w : World} {K : PySem.W.Frag} {mg : Str → Option Value} {base : Heap} {j k : Nat} {H : Hp} {f : Addr} {ws : List V} {φ : Spf} (c : Clo P w K mg base j H f ws φ) (h : j ≤ k) : Clo P w K mg base k H f ws φ :=
  ⟨fun A outer s H2 us vs xs Q E hr => c.run A outer s H2 us vs xs Q E (hr.mono h), c.fn⟩
section
variable {P : Program} {w : World} {K : PySem.W.Frag} {mg : Str → Option Value} {base : Heap}
theorem clo_lam {kb : Nat} {N ps fr : List Str} {scope : Scope} {params : Arguments} {body : Expr} {q : Str} {cl : List (Str × Addr)} {c' f : Addr} {pm ctv : Value} {h : Heap} {H : Hp} {ws : List V} {cb : CEx} (S : NScope N ps fr scope) (hN : N.length = ps.length + fr.length)
    (hbind : ∀ us : List Value, us.length = ps.length → bindArgs (PySem.W.kla_fn "<lambda>" q params body scope cl pm (.ref c') ctv) ⟨us, []⟩ = pure (ps.zip us))
    (hf : H f = some (.frz (PySem.W.kla_obj "<lambda>" q params body scope cl pm c' ctv) (.own f))) (C : CellsAt cl fr (ws.map some) h H) (nK : K.lookup f = none)
    (hbody : ∀ (A : Around) (outer : List Env) (s : Shared) (H : Hp) (E : XK), RT kb (ncD P w K mg base N ⟨"<lambda>", q, params, [], scope, cl, c'⟩ f A outer s H E) (WE E) → CE (ncD P w K mg base N ⟨"<lambda>", q, params, [], scope, cl, c'⟩ f A outer s H E) (WE E) body cb) :
    Clo P w K mg base (kb + 1) (lendH (cellS cl h) H) f ws (lamS ps.length cb) := by
  refine ⟨fun A outer s H2 us vs xs Q E hr e0 fz r hsp => ?_, fun z => absurd nK z⟩
  obtain ⟨hc, m, ds, P', PE, wd, fv, rl, ⟨hl, kk⟩, fin, fin2⟩ := hsp
  unfold Rep at fv
  obtain ⟨_, fv, rx⟩ := fv
  have nSf : cellS cl h f = none := by
    cases z : cellS cl h f with
    | none => rfl
    | some o =>
      obtain ⟨⟨y, e⟩, _⟩ := cellS_some z
      rw [(C.all y f e).1] at hf; cases hf
  have ef := fz f _ _ (show lendH (cellS cl h) H f = _ by unfold lendH; rw [nSf]; exact hf)
  have fo := (e0.hok f _ ef).1
  have ec : H2 c' = some (LamX.CodeO c' q) := by
    rcases fv with ⟨o, fd, c, e1, e2, e3, e4⟩ | z
    · rw [ef] at e1
      cases e1
      cases e2
      cases e3
      exact e4
    · exact absurd nK z
  have L : Lent (cellS cl h) (giveH (cellS cl h) H2) H2 := .give fun b o e => fz b o xT (by unfold lendH; rw [e])
  have e00 : Env0 P w K mg base A outer s (giveH (cellS cl h) H2) := ⟨e0.frames, e0.mod, fun b o e => ⟨(e0.bs b o e).1, L.none1 (e0.bs b o e).2⟩, e0.bsz, e0.funs, fun b hb => L.none1 (e0.frf b hb), L.okD e0.hok, e0.bare⟩
  have there : ∀ {y : Str} {c : Addr} {v : Option Value}, cl.lookup y = some c → h.IsCell c v → s.heap.IsCell c v ∧ giveH (cellS cl h) H2 c = none := fun {y c v} e ⟨o, ho, hd⟩ => by
    have q := cellS_at e ho
    exact ⟨⟨o, L.at1 e0.hok q, hd⟩, (L.inn c o q).1⟩
  have C2 : CellsAt cl fr (ws.map some) s.heap (giveH (cellS cl h) H2) := by
    refine ⟨C.len, fun y c e => ?_, C.inj, fun i y e => ?_⟩
    · obtain ⟨_, v, z⟩ := C.all y c e
      exact ⟨(there e z).2, v, (there e z).1⟩
    · obtain ⟨c, hc2, hv⟩ := C.has i y e
      refine ⟨c, hc2, fun v ev => ?_⟩
      obtain ⟨u, ru, z⟩ := hv v ev
      exact ⟨u, ru, (there hc2 z).1⟩
  have lw : ws.length = fr.length := by rw [← C.len, List.length_map]
  have lv : vs.length = ps.length := by rw [← rl.length]; exact hl
  have lim : s.heap.NoLimit := e0.mod.nolimit.keeps fun b o e => (e0.bs b o e).1
  refine PySem.W.kla_callFunE hr.r.depth fo rfl S.co S.gen rfl (codeO_at e0.hok ec) ?_
  rw [hbind us (by rw [← r.length]; exact lv)]
  refine wpAny_pure (wpAny_newFunctionEnv S.nocell (fun ⟨n, _⟩ hy => S.par n (List.of_mem_zip hy).1) (fun h₁ hns hsb => ⟨lim.fresh _ hsb, ?_⟩) S.kind)
  show codeAny _ _ (.expr body (envF ⟨"<lambda>", q, params, [], scope, cl, c'⟩ f s.heap.objs.size)) _ _
  have kp : ∀ b o, s.heap.get? b = some o → h₁.get? b = some o := fun b o e => hsb.extBut b o (Nat.ne_of_lt (Heap.lt_size e)) (Heap.get?_push_of_some _ e)
  have J := inv_startN (CX := L2.CX P w) (F := ⟨"<lambda>", q, params, [], scope, cl, c'⟩) (f := f) (E := fun cls d H' => Lent (cellS cl h) H' (lendH (cellS cl h) H') → E cls d (lendH (cellS cl h) H')) (tk := s.toks + (ps.zip us).length) S hr.r.hd e00 lv r C2 hns kp
  have eσ : startF N vs (ws.map some) = L2.start N (vs ++ ws) := by
    unfold startF L2.start
    rw [List.map_append, List.append_assoc, List.length_map, List.length_append, Nat.sub_add_eq]
  have rs : Rs K ⟨giveH (cellS cl h) H2, hc, m⟩ (startF N vs (ws.map some)) (giveH (cellS cl h) H2) (ds.map Sl.val ++ xs.map Sl.val) hc m := by
    have z := start_rs (N := N) (wd.agr L.agD) ((RepL.agr L.agD _ _ rl).append (RepL.agr L.agD _ _ rx))
    rw [eσ]
    have e2 : startC N (ds ++ xs) = ds.map Sl.val ++ xs.map Sl.val := by
      unfold startC
      rw [List.map_append, List.length_append, rx.length, hl, lw, hN, Nat.sub_self, List.replicate_zero, List.append_nil]
    rw [e2] at z
    exact z
  refine PySem.W.kla_codeExpr (wpAny_mono ((hbody A outer s (giveH (cellS cl h) H2) (fun cls d H' => Lent (cellS cl h) H' (lendH (cellS cl h) H') → E cls d (lendH (cellS cl h) H')) ⟨hr.deeper _, takes_of rfl rfl rfl rfl, passes_of rfl⟩).p.run [] _ _ _ (fun v H' => (∀ b o, cellS cl h b = some o → H' b = none) → Q v (lendH (cellS cl h) H')) J
    ⟨_, _, hc, m, _, P', rs, kk, fun y sc' hc' py cls dx σ' H' m' r' q LL => fin2 y hc' py cls dx _ m' (L.exU LL r'.toEx) (RepXK.agr LL.agU q), fun d hc' p v H' m' x q nS => fin d hc' p v _ m' (L.exU (.lend nS) x) (Rep.agr (Lent.lend nS).agU _ _ q)⟩) (fun v s' hq => ?_) fun e s' hq => ?_)
  · obtain ⟨v', H', J', rv, qq⟩ := hq
    have un : Un (frs outer) [] (giveH (cellS cl h) H2) H' s.heap s'.heap := J'.base
    have nS : ∀ b o, cellS cl h b = some o → H' b = none := fun b o e => un.free b o (L.at1 e0.hok e) (L.inn b o e).1 (by simp)
    have L' : Lent (cellS cl h) H' (lendH (cellS cl h) H') := .lend nS
    refine ⟨v', lendH (cellS cl h) H', J'.os, J'.bare, L.unU L' un, L'.okU (fun b o e => un.keep b o (L.at1 e0.hok e) (L.inn b o e).1 (fun z => ?_) (by simp)) J'.hok, rv, qq nS⟩
    have z := e0.frf b z
    rw [(L.inn b o e).2] at z; cases z
  · refine wpAny_mono hq (fun _ s'' z => ?_) fun e' s'' z => ?_
    · exact L.cxU (fun b o q z2 => by
        have z3 := e0.frf b z2
        rw [(L.inn b o q).2] at z3; cases z3) (fun b o q => L.at1 e0.hok q) z fun cls d H' LL x => x LL
    · exact L.cxU (fun b o q z2 => by
        have z3 := e0.frf b z2
        rw [(L.inn b o q).2] at z3; cases z3) (fun b o q => L.at1 e0.hok q) z fun cls d H' LL x => x LL
end
/-! ### f(lambda ..: body, ..) -/
def cLamC (sp : CloR → Spc) (js : List Nat) (n : Nat) (cb : CEx) (c : CAx) : CEx := fun E sc hc P => ∃ xs, capsOf sc js = some xs ∧ c E sc hc fun ds hc1 => ∀ f ws, sp (fun g us φ => g = f ∧ us = ws ∧ φ = lamS n cb) (.clo f ws xs :: ds) hc1 P fun x hc2 => E x sc hc2
theorem ce_lamc {X : Cx} {W : WX} {x : Str} {p lpos pos : Pos} {kc k l kb : Nat} {pg : List Str} {sp : CloR → Spc} {es : List Expr} {c : CAx} {params : Arguments} {body : Expr} {scope : Scope} {N ps fr : List Str} {js : List Nat} {cb : CEx} {cc Pt : Addr} (F : FnAtH X.prog X.w X.K X.mg X.base kc k x pg sp) (hr : RT l X W) (TB : LamX.TabB X.base X.mg cc Pt) (hcode : X.env.code = .ref cc)
    (hmt : (Pt, X.env.qual ++ "<lambda>") ∈ tabsL X.K) (nd : (tabA X.K).Nodup) (S : NScope N ps fr scope)
    (hbody : ∀ (q : Str) (cl : List (Str × Addr)) (c' f : Addr) (A : Around) (outer : List Env) (s : Shared) (H : Hp) (E : XK), RT kb (ncD X.prog X.w X.K X.mg X.base N ⟨"<lambda>", q, params, [], scope, cl, c'⟩ f A outer s H E) (WE E) → CE (ncD X.prog X.w X.K X.mg X.base N ⟨"<lambda>", q, params, [], scope, cl, c'⟩ f A outer s H E) (WE E) body cb)
    (ha : CA X W es c) (hbind : ∀ (q : Str) (cl : List (Str × Addr)) (pm cv ctv : Value) (us : List Value), us.length = ps.length → bindArgs (PySem.W.kla_fn "<lambda>" q params body scope cl pm cv ctv) ⟨us, []⟩ = pure (ps.zip us))
    (hl : k ≤ l := by decide) (hkc : kb + 1 ≤ kc := by decide) (hN : N.length = ps.length + fr.length := by rfl) {sc0 : Scope} (hsc : X.env.scope = sc0 := by rfl) (hfree0 : ndefB sc0 scope fr = true := by decide +kernel) (hjs : js.map (fun j => X.N[j]?) = fr.map some := by rfl) (hdef : defaultsOf params X.env = ([], []) := by rfl) (hfn : ∀ y, X.fn y = true := by intro _; rfl)
    (hg : Gl X x := by rfl) (hdb : (x == ("__debug__" : Str)) = false := by decide) (he : starEach (.Lambda params body scope lpos :: es) X.env = (false, eval (.Lambda params body scope lpos) X.env) :: starEach es X.env := by rfl) (hpl : (backTo pos (starEach es X.env)).any (·.1) = false := by rfl) :
    CE X W (.Call (.Name x p) (.Lambda params body scope lpos :: es) [] pos) (cLamC sp js ps.length cb c) := by
  refine ⟨⟨fun pins s σ H Q I ⟨en, sc, hc, m, E, P, r, ⟨xs, hx, k1⟩, xo, fin⟩ => ?_⟩⟩
  obtain ⟨fg, fd, FG, hm, hk, hb⟩ := F
  have hfree : ndefB X.env.scope scope fr = true := by rw [hsc]; exact hfree0
  have hfr := ndef_free hfree
  refine wpAny_Call_Name_kw (ld_glob I hg hm (PySem.W.callWith_K (h₀ := X.base) I.ok.mod.kin hk (thn ((pa_cons (pe_lam (pos := lpos) TB hcode hmt nd hdef hfr) ha.p he).run pos pins s σ H (fun vs H2 => ∃ f c' o H1 hc2 m2 ds vs', vs = .ref f :: vs' ∧ LamMade X params body scope H H1 f c' o ∧ Ex X.K ⟨H1, hc, m⟩ H2 hc2 m2 ∧ RepL X.K H2 m2 ds vs' ∧
      ∀ f ws, sp (fun g us φ => g = f ∧ us = ws ∧ φ = lamS ps.length cb) (.clo f ws xs :: ds) hc2 P fun x hc3 => E x sc hc3) I ⟨r.tab, fun f c' o H1 L => ⟨en, sc, hc, m, E, _, r.call (L.ex rfl r.toWd), k1, xo, fun ds hc1 hp vs H2 m2 x2 q2 => ⟨f, c', o, H1, hc1, m2, ds, vs, rfl, L, x2, q2, hp⟩⟩⟩)
    fun us s1 ⟨vs, H2, I1, r1, q1⟩ => ⟨I1.kIn, ?_⟩) he hpl) hdb)
  obtain ⟨f, c', o, H1, hc2, m2, ds, vs', rfl, L, x2, q2, hsp⟩ := q1
  have x1 := L.ex rfl r.toWd
  have r2 := (r.call x1).call x2
  obtain ⟨ws, ew, rw_⟩ := caps_rep r2 hx
  have C := cells_of I1 (Caps.made I1.ok hfr (ndef_fr hfree) hjs)
  rw [ew] at C
  obtain ⟨pm, ctv, eo⟩ := L.ob
  subst eo
  have hcf : hc f = none := hc_none r.toWd L.new
  have hcc : hc c' = none := by
    cases z : hc c' with
    | none => rfl
    | some es =>
      obtain ⟨us, e, _⟩ := x1.heap c' es z
      rw [L.code] at e
      unfold LamX.CodeO at e
      cases e
  have ef := x2.keep f _ L.fr trivial hcf
  have ec := x2.keep c' _ L.code (nt_of fun ps z => by unfold LamX.CodeO at z; cases z) hcc
  have nK : X.K.lookup f = none := by
    cases z : X.K.lookup f with
    | none => rfl
    | some ob =>
      rw [(I1.bs f ob (I1.ok.mod.kin f ob z)).2] at ef; cases ef
  have S_none : ∀ b ob, cellS (cloFrom X.env.cells scope.names []) s1.heap b = some ob → H2 b = none := fun b ob e => by
    obtain ⟨⟨y, e1⟩, _⟩ := cellS_some e
    exact (C.all y b e1).1
  have L3 := Lent.lend S_none
  have far : ∀ {b : Addr} {ob : Obj}, cellS (cloFrom X.env.cells scope.names []) s1.heap b = some ob → X.s_0.heap.objs.size ≤ b ∧ b ≠ X.env.locals := fun {b ob} e => by
    obtain ⟨⟨y, e1⟩, _⟩ := cellS_some e
    have e2 := (Caps.made I1.ok hfr (ndef_fr hfree) hjs).sub y b e1
    exact ⟨I1.ok.cab y b (hfn y) e2, I1.cne y b e2⟩
  have nstk : ∀ b ob, cellS (cloFrom X.env.cells scope.names []) s1.heap b = some ob → b ∉ frs X.stack := fun b ob e z => by
    rcases List.mem_cons.mp (I1.stkSub b z) with z | z
    · exact (far e).2 z
    · obtain ⟨_, o', ho, _⟩ := I1.ok.funs.mem z
      exact absurd (Nat.lt_of_lt_of_le (Heap.lt_size ho) (far e).1) (Nat.lt_irrefl _)
  have cln := clo_lam (P := X.prog) (w := X.w) (mg := X.mg) (base := X.base) (h := s1.heap) (H := H2) S hN (fun us hu => hbind _ _ _ _ _ us hu) ef C nK (fun A outer s H E hr => hbody _ _ _ _ A outer s H E hr)
  have e03 : Env0 X.prog X.w X.K X.mg X.base X.A X.stack s1 (lendH (cellS (cloFrom X.env.cells scope.names []) s1.heap) H2) := by
    have e0 := I1.env0
    refine ⟨e0.frames, e0.mod, fun b ob e => ⟨(e0.bs b ob e).1, ?_⟩, e0.bsz, e0.funs, fun b z => ?_, L3.okU (fun b ob e => (cellS_some e).2) e0.hok, e0.bare⟩
    · rw [L3.out b ?_]
      · exact (e0.bs b ob e).2
      · cases z : cellS (cloFrom X.env.cells scope.names []) s1.heap b with
        | none => rfl
        | some o' => exact absurd (Nat.lt_of_lt_of_le (Heap.lt_size e) (Nat.le_trans I1.ok.bsz (far z).1)) (Nat.lt_irrefl _)
    · rw [L3.out b ?_]
      · exact e0.frf b z
      · cases y : cellS (cloFrom X.env.cells scope.names []) s1.heap b with
        | none => rfl
        | some o' => exact absurd z (nstk b o' y)
  have repf : Rep X.K (lendH (cellS (cloFrom X.env.cells scope.names []) s1.heap) H2) m2 (.clo f ws xs) (.ref f) := by
    refine Rep.agr L3.agU _ _ ?_
    unfold Rep
    exact ⟨rfl, .inl ⟨_, _, c', ef, rfl, rfl, ec⟩, rw_⟩
  have tosp : toSpH X.prog X.w X.K X.mg X.base kc (fun g us φ => g = f ∧ us = ws ∧ φ = lamS ps.length cb) (sp (fun g us φ => g = f ∧ us = ws ∧ φ = lamS ps.length cb)) (.ref f :: vs') (lendH (cellS (cloFrom X.env.cells scope.names []) s1.heap) H2)
      (fun v H' => Q v (giveH (cellS (cloFrom X.env.cells scope.names []) s1.heap) H')) (fun cls d H' => Lent (cellS (cloFrom X.env.cells scope.names []) s1.heap) (giveH (cellS (cloFrom X.env.cells scope.names []) s1.heap) H') H' → W cls d σ (giveH (cellS (cloFrom X.env.cells scope.names []) s1.heap) H')) := by
    refine ⟨fun g us φ ⟨h1, h2, h3⟩ => by subst h1; subst h2; subst h3; exact cln.mono hkc, hc2, m2, _, P, _, r2.toWd.agr L3.agU, RepL.cons repf (RepL.agr L3.agU _ _ q2), hsp f ws, fun d hc' pd v H' m' x q => ?_, fun y hc' py cls dx H' m' x q LL => xo y sc hc' py cls dx σ _ m' (r.call (x1.trans (x2.trans (L3.exD LL x)))) (RepXK.agr LL.agD q)⟩
    have L4 : Lent (cellS (cloFrom X.env.cells scope.names []) s1.heap) (giveH (cellS (cloFrom X.env.cells scope.names []) s1.heap) H') H' := .give fun b ob e => x.keep b _ (L3.inn b ob e).2 trivial (hc_none r2.toWd (S_none b ob e))
    exact fin d hc' pd v _ m' (x1.trans (x2.trans (L3.exD L4 x))) (Rep.agr L4.agD _ _ q)
  have run := (FG (fun g us φ => g = f ∧ us = ws ∧ φ = lamS ps.length cb)).run X.A X.stack s1 _ ⟨us, []⟩ us (.ref f :: vs') _ _ (hr.g.mono hl) e03 (by
    have hl2 := (FG (fun g us φ => g = f ∧ us = ws ∧ φ = lamS ps.length cb)).len _ _ _ _ tosp
    have z := hb s1 us I1.kIn (by rw [List.append_nil, ← r1.length]; exact hl2)
    rw [List.append_nil] at z
    exact z) r1 tosp
  refine wpAny_call (codeAny_mono run fun z s' hq => ?_)
  match z, hq with
  | .error e, hq => exact hr.t e s' (XE.of_call I1 (fun _ _ _ z => z) (L3.cxD nstk (fun b o q => (cellS_some q).2) hq fun cls d H' LL x => x LL))
  | .ok .next, hq => exact False.elim hq
  | .ok .brk, hq => exact False.elim hq
  | .ok .cont, hq => exact False.elim hq
  | .ok (.ret u), hq =>
    obtain ⟨v, H', os, bare, un, hok, rv, qq⟩ := hq
    have L4 : Lent (cellS (cloFrom X.env.cells scope.names []) s1.heap) (giveH (cellS (cloFrom X.env.cells scope.names []) s1.heap) H') H' := .give fun b ob e => un.frzs b ob xT (L3.inn b ob e).2
    exact I1.after ⟨v, _, os, bare, L3.unD L4 nstk (fun b ob e => ⟨(cellS_some e).2, L4.at1 hok e⟩) un, L4.okD hok, rv, qq⟩
theorem e_LamC {sp : CloR → Spc} {js : List Nat} {n : Nat} {cb : CEx} {c : CAx} {E : XP} {sc : List Sl} {hc : CH} {P : D → CH → Prop} : cLamC sp js n cb c E sc hc P = ∃ xs, capsOf sc js = some xs ∧ c E sc hc fun ds hc1 => ∀ f ws, sp (fun g us φ => g = f ∧ us = ws ∧ φ = lamS n cb) (.clo f ws xs :: ds) hc1 P fun x hc2 => E x sc hc2 := rfl
end Mn

namespace Mn
open PySem PySem.Spec PyProof.Rows L2 NdefX
/-! ### defs with keyword-only parameters that have defaults -/
def DefAtK (K : PySem.W.Frag) (mg : Str → Option Value) (x : Str) (st : Stmt) (kws : List (Str × V)) : Prop := ∃ (f : Addr) (fd : FuncData), FunD K x x (defArgs st) (defBody st) (defScope st) [] kws f fd ∧ mg x = some (.ref f)
def FnAtK (P : Program) (w : World) (K : PySem.W.Frag) (mg : Str → Option Value) (base : Heap) (k : Nat) (x : Str) (ps : List Str) (n : Nat) (ks : List Str) (dds : List D) (sp : Spc) : Prop :=
  ∃ (f : Addr) (fd : FuncData) (dvs : List V), FnG P w K mg base (L2.CX P w) k f fd ps (toSp K mg sp) ∧ mg x = some (.ref f) ∧ PySem.W.keepIn K (.ref f) = true ∧ (∃ ds, Vals dvs ds ∧ Binds K fd ps ds) ∧ (∀ H m, RepL K H m dds dvs) ∧ KBn K fd ps n ks (fun us ws => us ++ ws) (fun vs zs => vs ++ zs)
theorem fnK_at {P : Program} {w : World} {K : PySem.W.Frag} {mg : Str → Option Value} {base : Heap} {x : Str} {st : Stmt} {N ps : List Str} {k n : Nat} {kws : List (Str × V)} {dds : List D} {sp : Spc} {c : CSx} (F : DefAtK K mg x st kws) (S : FnScope N ps (defScope st))
    (hb : ∀ (f : Addr) (cdv : Value) (A : Around) (outer : List Env) (s : Shared) (H : Hp) (E : XK), RT k (cxD P w K mg base N x (defScope st) f cdv A outer s H E) (WE E) → CSs (cxD P w K mg base N x (defScope st) f cdv A outer s H E) (WE E) (defBody st) c)
    (hl : ∀ ds hc Q E, sp ds hc Q E → ds.length = ps.length) (hp : ∀ ds hc (Q : D → CH → Prop) E, sp ds hc Q E → c { nx := fun _ hc' => Q .non hc', rt := Q, xp := fun x _ hc' => E x hc' } (startC N ds) hc)
    (hk : kws ≠ []) (hn : n + kws.length = ps.length) (hd : ∀ H m, RepL K H m dds (kws.map (·.2)))
    (h0 : ∀ (Dd : Addr) (doc pm : Value) (an : Option Addr) (cdv ct : Value) (us ks : List Value), us.length = n → ks.length = kws.length →
      KwChain Dd ((kws.map (·.1)).zip ks) (bindArgs (PySem.W.fnOf x x (defArgs st) (defBody st) (defScope st) .none (.ref Dd) doc pm an cdv ct) ⟨us, []⟩) (ps.zip (us ++ ks)))
    (h1 : ∀ (Dd : Addr) (doc pm : Value) (an : Option Addr) (cdv ct : Value) (us ws : List Value), us.length = n → ws.length = kws.length → bindArgs (PySem.W.fnOf x x (defArgs st) (defBody st) (defScope st) .none (.ref Dd) doc pm an cdv ct) ⟨us, (kws.map (·.1)).zip ws⟩ = pure (ps.zip (us ++ ws))) :
    FnAtK P w K mg base (k + 1) x ps n (kws.map (·.1)) dds sp := by
  obtain ⟨f, fd, F, hm⟩ := F
  refine ⟨f, fd, kws.map (·.2), fn_ok F S (hb f) hl hp, hm, F.kp, F.binds0 n hk hn h0, hd, ?_⟩
  obtain ⟨oc, od, dV, kV, doc, pm, an, cdv, ct, osl, rfl, lk, hcd, hD, hK⟩ := F.ex
  rcases hD with ⟨_, rfl⟩ | ⟨e, _⟩
  · rcases hK with e | ⟨Dd, rfl, _⟩
    · exact absurd e hk
    · refine ⟨fun s us ws _ l1 l2 => .of_eq (h1 Dd doc pm an cdv ct us ws l1 (by rw [l2, List.length_map])), fun r1 r2 => r1.append r2⟩
  · exact absurd rfl e
section
variable {X : Cx} {W : WX} {e : Expr} {es : List Expr} {kws : List Keyword} {c ck : CAx} {ce : CEx} {p pos : Pos}
structure CK (X : Cx) (W : WX) (kws : List Keyword) (c : CAx) : Prop where
  p : PK X kws (LA X W c)
theorem pk_wk {X : Cx} {kws : List Keyword} {t t' : TA} (h : PK X kws t) (g : ∀ σ H Q, t' σ H Q → t σ H Q) : PK X kws t' := ⟨fun pos pins s σ H Q I q => h.run pos pins s σ H Q I (g σ H Q q)⟩
theorem ck_nil : CK X W [] cNil := ⟨pk_wk pk_nil fun σ H Q ⟨en, sc, hc, m, E, P, r, k, xo, fin⟩ => fin _ hc k _ H m (.refl r.toWd) RepL.nil⟩
theorem ck_cons {nm : Option Str} {kpos : Pos} (ha : CE X W e ce) (hr : CK X W kws ck) : CK X W (⟨nm, e, kpos⟩ :: kws) (cCons ce ck) := ⟨pk_wk (pk_cons ha.p hr.p) fun σ H Q ⟨en, sc, hc, m, E, P, r, k, xo, fin⟩ =>
  ⟨en, sc, hc, m, E, _, r, k, xo, fun d hc1 hp v H1 m1 x1 q1 => ⟨en, sc, hc1, m1, E, _, r.call x1, hp, xo, fun ds hc2 hp2 vs H2 m2 x2 q2 => fin _ hc2 hp2 _ H2 m2 (x1.trans x2) (RepL.cons (Rep.mono x1.mu x2.stp _ _ q1) q2)⟩⟩⟩
/-- f(..), the keyword-only ones left out -/
def cCallD (sp : Spc) (dds : List D) (c : CAx) : CEx := fun E sc hc P => c E sc hc fun ds hc1 => sp (ds ++ dds) hc1 P fun x hc2 => E x sc hc2
theorem ce_fD {x : Str} {k l n : Nat} {ps ks : List Str} {dds : List D} {sp : Spc} (F : FnAtK X.prog X.w X.K X.mg X.base k x ps n ks dds sp) (hr : RT l X W) (ha : CA X W (e :: es) c) (hl : k ≤ l := by decide)
    (hg : Gl X x := by rfl) (hdb : (x == ("__debug__" : Str)) = false := by decide) (he : starEach (e :: es) X.env = (false, eval e X.env) :: starEach es X.env := by rfl) (hpl : (backTo pos (starEach es X.env)).any (·.1) = false := by rfl) : CE X W (.Call (.Name x p) (e :: es) [] pos) (cCallD sp dds c) := by
  obtain ⟨f, fd, dvs, F, hm, hk, ⟨ds0, rd, hb⟩, rdd, _⟩ := F
  exact ⟨pe_wk (pe_callX (F.mono hl) hr hg hm hk hb rd ha.p hdb he hpl) fun σ H Q ⟨en, sc, hc, m, E, P, r, k, xo, fin⟩ =>
    ⟨en, sc, hc, m, E, _, r, k, xo, fun ds hc1 hp vs H1 m1 x1 q1 => ⟨hc1, m1, ds ++ dds, P, _, x1.toWd, q1.append (rdd H1 m1), hp, fun d hc' pd v H' m' x q => fin d hc' pd v H' m' (x1.trans x) q, fun y hc' py cls dx H' m' x q => xo y sc hc' py cls dx σ H' m' (r.call (x1.trans x)) q⟩⟩⟩
/-- f(.., k = v) -/
def cCallK (sp : Spc) (n m : Nat) (c ck : CAx) : CEx := fun E sc hc P => c E sc hc fun ds hc1 => ck E sc hc1 fun zs hc2 => ds.length = n ∧ zs.length = m ∧ sp (ds ++ zs) hc2 P fun x hc3 => E x sc hc3
theorem ce_fK {x : Str} {k l n mk : Nat} {ps ks : List Str} {dds : List D} {sp : Spc} (F : FnAtK X.prog X.w X.K X.mg X.base k x ps n ks dds sp) (hr : RT l X W) (ha : CA X W (e :: es) c) (hkw : CK X W kws ck) (hmk : ks.length = mk := by rfl) (hl : k ≤ l := by decide)
    (hall : (backToKw pos (keywordEach kws X.env)).all (·.1.isSome) = true := by rfl) (hks : (backToKw pos (keywordEach kws X.env)).filterMap (·.1) = ks := by rfl)
    (hg : Gl X x := by rfl) (hdb : (x == ("__debug__" : Str)) = false := by decide) (he : starEach (e :: es) X.env = (false, eval e X.env) :: starEach es X.env := by rfl)
    (hpl : ((backTo pos (starEach (e :: es) X.env)).any (·.1) || (backToKw pos (keywordEach kws X.env)).any (·.1.isNone)) = false := by rfl) : CE X W (.Call (.Name x p) (e :: es) kws pos) (cCallK sp n mk c ck) := by
  subst hmk
  obtain ⟨f, fd, dvs, F, hm, hk, _, rdd, KB⟩ := F
  have F2 := F.mono hl
  refine ⟨⟨fun pins s σ H Q I ⟨en, sc, hc, m, E, P, r, kk, xo, fin⟩ => ?_⟩⟩
  refine wpAny_Call_Name_kw (ld_glob I hg hm ?_ hdb)
  refine PySem.W.callWith_KW (h₀ := X.base) I.ok.mod.kin hk hall (thn (ha.p.run pos pins s σ H (fun vs H1 => ∃ ds hc1 m1, Ex X.K ⟨H, hc, m⟩ H1 hc1 m1 ∧ RepL X.K H1 m1 ds vs ∧ ck E sc hc1 fun zs hc2 => ds.length = n ∧ zs.length = ks.length ∧ sp (ds ++ zs) hc2 P fun x hc3 => E x sc hc3) I ⟨en, sc, hc, m, E, _, r, kk, xo, fun ds hc1 hp vs H1 m1 x1 q1 => ⟨ds, hc1, m1, x1, q1, hp⟩⟩) fun us s1 ⟨vs, H1, I1, ru, ds, hc1, m1, x1, q1, k1⟩ => ?_) hpl he
  refine thn (hkw.p.run pos pins s1 σ H1 (fun zv H2 => vs.length = n ∧ zv.length = ks.length ∧ toSp X.K X.mg sp (vs ++ zv) H2 Q fun cls d H' => W cls d σ H') I1 ⟨en, sc, hc1, m1, E, _, r.call x1, k1, xo, fun zs hc2 hp zv H2 m2 x2 q2 => ⟨by rw [← q1.length]; exact hp.1, by rw [← q2.length]; exact hp.2.1, hc2, m2, ds ++ zs, P, _, x2.toWd, (RepL.mono x1.mu x2.stp _ _ q1).append q2, hp.2.2, fun d hc' pd v H' m' x q => fin d hc' pd v H' m' (x1.trans (x2.trans x)) q, fun y hc' py cls dx H' m' x q => xo y sc hc' py cls dx σ H' m' (r.call (x1.trans (x2.trans x))) q⟩⟩) fun ws s2 ⟨zv, H2, I2, rz, l1, l2, q2⟩ => ⟨I2.kIn, ?_⟩
  rw [hks]
  have r2 := KB.rel ru rz
  refine wpAny_call (codeAny_mono (F2.run X.A X.stack s2 H2 ⟨us, ks.zip ws⟩ (us ++ ws) (vs ++ zv) Q _ hr.g I2.env0 (KB.to s2 us ws I2.kIn (ru.length.symm.trans l1) (rz.length.symm.trans l2)) r2 q2) fun z s' hq => ?_)
  match z, hq with
  | .error e, hq => exact hr.t e s' (XE.of_call I2 (fun _ _ _ z => z) hq)
  | .ok (.ret u), hq => exact I2.after hq
  | .ok .next, hq => exact False.elim hq
  | .ok .brk, hq => exact False.elim hq
  | .ok .cont, hq => exact False.elim hq
end
theorem e_CallD {sp : Spc} {dds : List D} {c : CAx} {E : XP} {sc : List Sl} {hc : CH} {P : D → CH → Prop} : cCallD sp dds c E sc hc P = c E sc hc fun ds hc1 => sp (ds ++ dds) hc1 P fun x hc2 => E x sc hc2 := rfl
theorem e_CallK {sp : Spc} {n m : Nat} {c ck : CAx} {E : XP} {sc : List Sl} {hc : CH} {P : D → CH → Prop} : cCallK sp n m c ck E sc hc P = c E sc hc fun ds hc1 => ck E sc hc1 fun zs hc2 => ds.length = n ∧ zs.length = m ∧ sp (ds ++ zs) hc2 P fun x hc3 => E x sc hc3 := rfl
theorem e_CallV {Γ : CloR} {i : Nat} {c : CAx} {E : XP} {sc : List Sl} {hc : CH} {P : D → CH → Prop} : cCallV Γ i c E sc hc P = (match look sc i with
  | some (.clo f ws xs) => ∃ φ, Γ f ws φ ∧ c E sc hc fun ds hc1 => φ xs ds hc1 P fun x hc2 => E x sc hc2
  | _ => False) := rfl
/-! ### defs that make lambdas -/
def lamN (K : PySem.W.Frag) (x : Str) : Bool := PySem.W.codeHdIn K (He.codeOf K (x, none)) (He.tabOf K (He.codeOf K (x, none)))
/-- a def's code object and its table are known -/
def LamN (K : PySem.W.Frag) (mg : Str → Option Value) (x : Str) : Prop := lamN K x = true ∧ mg x = some (.ref (He.ga K x))
theorem lamN_of {K : PySem.W.Frag} {mg : Str → Option Value} {base : Heap} {x : Str} {f : Addr} {oc : Value} {od : Option Addr} {osl : Array (Option Value)} {params : Arguments} {body : List Stmt} {scope : Scope} {dV kV doc pm cdv ct : Value} {an : Option Addr} (l : LamN K mg x) (B : BaseT K mg base) (KX : K.In base)
    (lk : K.lookup f = some ⟨oc, od, .func (PySem.W.fnOf x x params body scope dV kV doc pm an cdv ct), osl⟩) (hm : mg x = some (.ref f)) (hcd : PySem.W.codeIn K cdv x = true) : ∃ c P, cdv = .ref c ∧ (P, x ++ ".<locals>." ++ "<lambda>") ∈ tabsL K ∧ LamX.TabB base mg c P := by
  obtain ⟨c, rfl⟩ := He.codeIn_ref hcd
  have ef : f = He.ga K x := by
    have e := l.2
    rw [hm] at e; cases e; rfl
  have lk2 : K.lookup (He.fAd K (x, none)) = some ⟨oc, od, .func (PySem.W.fnOf x x params body scope dV kV doc pm an (.ref c) ct), osl⟩ := by
    rw [← lk, ef]
    rfl
  have ec := He.codeOf_eq lk2 rfl
  have hc := l.1
  unfold lamN at hc
  rw [ec] at hc
  have mem : (He.tabOf K c, x ++ ".<locals>." ++ "<lambda>") ∈ tabsL K := by
    refine List.mem_filterMap.mpr ⟨(f, ⟨oc, od, .func (PySem.W.fnOf x x params body scope dV kV doc pm an (.ref c) ct), osl⟩), He.lookup_mem lk, ?_⟩
    show (if PySem.W.codeHdIn K c (He.tabOf K c) = true then some (He.tabOf K c, x ++ ".<locals>." ++ "<lambda>") else none) = _
    rw [if_pos hc]
  have hb := B (He.tabOf K c) (List.mem_map.mpr ⟨_, mem, rfl⟩)
  exact ⟨c, _, rfl, mem, PySem.W.codeHd_of_K KX hc, hb.1, hb.2⟩
/-- the rule of a def that makes lambdas: its code object is known to the body -/
theorem fnL_at {P : Program} {w : World} {K : PySem.W.Frag} {mg : Str → Option Value} {base : Heap} {x : Str} {st : Stmt} {N ps : List Str} {k : Nat} {sp : Spc} {c : CSx} (F : DefAt K mg x st) (l : LamN K mg x) (B : BaseT K mg base) (KX : K.In base) (S : FnScope N ps (defScope st))
    (hb : ∀ (f : Addr) (cdv : Value) (A : Around) (outer : List Env) (s : Shared) (H : Hp) (E : XK), RT k (cxD P w K mg base N x (defScope st) f cdv A outer s H E) (WE E) → (∃ cc Pt, cdv = .ref cc ∧ (Pt, x ++ ".<locals>." ++ "<lambda>") ∈ tabsL K ∧ LamX.TabB base mg cc Pt) → CSs (cxD P w K mg base N x (defScope st) f cdv A outer s H E) (WE E) (defBody st) c)
    (hl : ∀ ds hc Q E, sp ds hc Q E → ds.length = ps.length) (hp : ∀ ds hc (Q : D → CH → Prop) E, sp ds hc Q E → c { nx := fun _ hc' => Q .non hc', rt := Q, xp := fun x _ hc' => E x hc' } (startC N ds) hc)
    (hbi : ∀ (kV doc pm : Value) (an : Option Addr) (cdv ct : Value) (us : List Value), us.length = ps.length → bindArgs (PySem.W.fnOf x x (defArgs st) (defBody st) (defScope st) .none kV doc pm an cdv ct) ⟨us, []⟩ = pure (ps.zip us)) : FnAt P w K mg base (k + 1) x ps sp := by
  obtain ⟨f, fd, F, hm⟩ := F
  obtain ⟨oc, od, dV, kV, doc, pm, an, cdv, ct, osl, rfl, lk, hcd, _, _⟩ := F.ex
  refine ⟨f, _, ?_, hm, F.kp, F.bindsN hbi, oc, od, osl, lk⟩
  have kn := lamN_of l B KX lk hm hcd
  exact fnG_of lk hcd S (fun vs H Q E ⟨hc, m, ds, P', PE, w', rl, h, _⟩ => by rw [← rl.length]; exact hl ds hc _ _ h) fun A outer s H vs Q E hr ⟨hc, m, ds, P', PE, w', rl, h, f1, f2⟩ => ⟨_, (hb f cdv A outer s H E (rt_of hr) kn).p, ⟨_, _, hc, m, _, start_rs w' rl, hp ds hc P' PE h, end_of f1 f2⟩⟩
/-! ### the hook, with the defs that make lambdas -/
def obsLG (n : Nat) (fa : List He.Fa) (fn : List He.DefD) (tc : TupC) (lm : List Str) (g : Addr → Option Obj) : (He.AlD × Bool) × Bool := (obsTG n fa fn tc g, lm.all (lamN (He.frT g (He.asD g n ++ [sysModules, cStatics]))))
def hookL (n : Nat) (fa : List He.Fa) (fn : List He.DefD) (tc : TupC) (lm : List Str) : PySem.W.Hook where
  α := (He.AlD × Bool) × Bool
  obs := fun s => obsLG n fa fn tc lm s.heap.get?
  val := fun _ => ((He.valD fn, true), true)
  says := fun _ h => ∃ K : PySem.W.Frag, K.In h ∧ SaysT fa fn tc K h ∧ ∀ x ∈ lm, lamN K x = true
  of := fun _ s e => by
    have e1 : obsTG n fa fn tc s.heap.get? = (He.valD fn, true) := congrArg (fun z : (He.AlD × Bool) × Bool => z.1) e
    have e2 : lm.all (lamN (He.frT s.heap.get? (He.asD s.heap.get? n ++ [sysModules, cStatics]))) = true := congrArg (fun z : (He.AlD × Bool) × Bool => z.2) e
    exact ⟨He.frT s.heap.get? (He.asD s.heap.get? n ++ [sysModules, cStatics]), He.frT_in, saysT_of e1, fun x hx => List.all_eq_true.mp e2 x hx⟩
  keeps := fun _ _ _ ⟨K, hK, ⟨c, d, t⟩, l⟩ k => ⟨K, PySem.W.Frag.In.keeps hK k, ⟨c, d, fun b hb => ⟨k _ _ (t b hb).1, (t b hb).2⟩⟩, l⟩
theorem obsLG_eq {n : Nat} {fa : List He.Fa} {fn : List He.DefD} {tc : TupC} {lm : List Str} {g : Addr → Option Obj} {s : Shared} (h : ∀ a, g a = s.heap.get? a) : obsLG n fa fn tc lm g = (hookL n fa fn tc lm).obs s := by
  have e : g = s.heap.get? := funext h
  subst e
  rfl
end Mn

set_option maxHeartbeats 2000000
namespace Mn
open PySem PySem.Spec PyProof.Rows L2 NdefX
/-! ### own exceptions with one field, set by __init__ behind super().__init__(..) -/
/-- the program's file is the one that the code names, and nothing of its is called super -/
structure Sup (P : Program) (file : Str) : Prop where
  f : (P.main.file == file) = true
  s : (P.main.scope.names.lookup ("super" : Str)).isSome = false
/-- def __init__(self, px): super().__init__(px); self.f = px -/
def IniBody (px f : Str) (body : List Stmt) : Prop := ∃ p0 p1 p2 p3 p4 p5 p6 p7 p8 p9, ((p2 : Pos).endLine == (p4 : Pos).line) = true ∧ body = [.Expr (.Call (.Attribute (.Call (.Name "super" p0) [] [] p1) "__init__" p2) [.Name px p3] [] p4) p5, .Assign [.Attribute (.Name "self" p6) f p7] (.Name px p8) p9]
/-- what the written part says of such a class -/
structure OwnX (K : PySem.W.Frag) (C : Addr) (B newId initId : String) (bmB : List Value) (px f file : Str) : Prop where
  FB : PySem.ExcBaseFacts B newId initId bmB
  SF : PySem.StoreFacts B bmB "object.__setattr__" "object"
  KF : PySem.W.KxsFacts B initId
  q : PySem.W.excInitIn K C bmB newId = true
  ov : PySem.W.excOver K C bmB = true
  hd : PySem.W.hasDictIn K C = true
  sa : PySem.W.findIn K (.ref C) "__setattr__" = some (some (.builtin "object.__setattr__"))
  no : PySem.W.findIn K (.ref C) f = some none
  sup : PySem.W.ks_superIn K C C "__init__" = some (some (.builtin initId))
  sB : PySem.W.subIn K (.ref C) (.type B) = some true
  sC : PySem.W.mroIn K C (.ref C) = some true
  exC : PySem.W.subIn K (.ref C) (.type "BaseException") = some true
  tyC : PySem.W.typeIn K (.ref C) = some (.type "type")
  kC : PySem.W.keepIn K (.ref C) = true
  opq : PySem.W.nsIn K cStatics "thirdparty.any" = some none
  fn : ∃ (fI cc cda : Addr) (q : Str) (params : Arguments) (body : List Stmt) (scope : Scope) (dV kV doc pm ct oc ccl cl : Value) (an od cdd cld : Option Addr) (osl ccs csl : Array (Option Value)) (vs : Array Value) (tf : Tok) (ar : Arg),
    PySem.W.findIn K (.ref C) "__init__" = some (some (.ref fI)) ∧ PySem.W.typeIn K (.ref fI) = some (.type "function") ∧ K.lookup fI = some ⟨oc, od, .func (PySem.W.ksFn "__init__" q params body scope dV kV doc pm an (.ref cda) ct cc), osl⟩ ∧
    PySem.W.codeIn K (.ref cda) q = true ∧ K.lookup cda = some ⟨ccl, cdd, .fields vs, ccs⟩ ∧ vs[2]? = some (.str file tf) ∧ K.lookup cc = some ⟨cl, cld, .cell (some (.ref C)), csl⟩ ∧ IniBody px f body ∧
    (∀ a u : Value, bindArgs (PySem.W.ksFn "__init__" q params body scope dV kV doc pm an (.ref cda) ct cc) ⟨[a, u], []⟩ = pure [(("self" : Str), a), (px, u)]) ∧
    (params.posonlyargs ++ params.args).head? = some ar ∧ ar.arg = "self" ∧ (px == ("__debug__" : Str)) = false ∧ px ≠ "self" ∧
    scope.names.lookup ("super" : Str) = some .globalImplicit ∧ scope.names.lookup ("__class__" : Str) = some .free ∧ scope.names.lookup ("self" : Str) = some .local ∧ scope.names.lookup px = some .local ∧
    scope.kind = .function ∧ scope.isCoroutine = false ∧ scope.isGenerator = false ∧ ∀ x ∈ scope.names, x.2 ≠ .cell
section
variable {prog : Program} {w : World} {A : Around} {K : PySem.W.Frag} {C : Addr} {B newId initId : String} {bmB : List Value} {px f file : Str} {mg mb : Str → Option Value} {s : Shared} {u : Value} {R : Result → Shared → Prop}
open Builtin Builtin.ObjectAttr in
theorem own_osa {prog : Program} {w : World} {A : Around} {hp : Heap} {g : Array GenState} {d : Drawn} {t : Nat} {os : OsState} {name : Str} {tk : Tok} {v : Value} {x t1 : Addr} {R : Result → Shared → Prop} (SF : PySem.StoreFacts B bmB "object.__setattr__" "object") (X : K.In hp)
    (hx : hp.get? x = some ({ cls := .ref C, data := .fields #[.ref t1, .none, .none, .none, .bool false, .none] } : Obj)) (ov : PySem.W.excOver K C bmB = true) (hd : PySem.W.hasDictIn K C = true) (no : PySem.W.findIn K (.ref C) name = some none)
    (hq : ∀ h' tk' dx, (∀ b o, b ≠ x → hp.get? b = some o → h'.get? b = some o) → hp.objs.size ≤ dx → dx ≠ x → h'.get? x = some ({ cls := .ref C, dict := some dx, data := .fields #[.ref t1, .none, .none, .none, .bool false, .none] } : Obj) →
      h'.Ns1 dx (fun y => if y = name then some v else none) → R (.ok (.ret .none)) ⟨h', g, d, tk', os⟩) :
    codeAny (model prog w) A (.call (.builtin "object.__setattr__") ⟨[.ref x, .str name tk, v], []⟩) R ⟨hp, g, d, t, os⟩ := by
  refine PySem.W.osa_openX (od := none) SF X ⟨hx, rfl, rfl, trivial⟩ ov (r := none) (by unfold PySem.W.takerIn; rw [no]; rfl) fun b => ?_
  obtain ⟨cd, hc, hd'⟩ := PySem.W.any_some hd
  have hxs : x ≠ hp.objs.size := Nat.ne_of_lt (Heap.lt_size hx)
  refine wpAny_bind (wpAny_pure (wpAny_bind (PySem.W.instanceDict_exc hx (PySem.W.looks_clsIn X hc) hd' ?_)))
  show wpAny _ _ (storeInDict hp.objs.size (.str name tk) name v) _ _ _
  refine PySem.HandSPX.store_in_new ?_ (fun h' tk' hn' hs => ?_)
  · exact ⟨_, #[], _, (Heap.get?_update_ne _ _ _ _ hxs.symm).trans (Heap.get?_push_at rfl rfl), rfl, fun e he => absurd he (by simp), fun _ => rfl⟩
  · refine hq h' tk' hp.objs.size (fun b o hb ho => ?_) (Nat.le_refl _) hxs.symm ?_ hn'
    · exact (hs.2 b (Nat.ne_of_lt (Heap.lt_size ho))).trans ((Heap.get?_update_ne _ _ _ _ hb).trans (Heap.get?_push_of_some _ ho))
    · exact (hs.2 x hxs).trans (Heap.get?_update_self _ (Heap.get?_push_of_some _ hx) rfl)
theorem own_call (T : OwnX K C B newId initId bmB px f file) (S : Sup prog file) (X : K.In s.heap) (G : s.heap.Ns mainGlobals mg) (ng : mg "super" = none) (Bn : s.heap.Ns builtinsNs mb) (hb : mb "super" = bootBuiltins "super") (lim : s.heap.NoLimit) (room : Room 1 A)
    (hq : ∀ h' e dx t1 tk, (∀ b o, s.heap.get? b = some o → h'.get? b = some o) → s.heap.objs.size ≤ e → s.heap.objs.size ≤ dx → dx ≠ e → h'.get? e = some ({ cls := .ref C, dict := some dx, data := .fields #[.ref t1, .none, .none, .none, .bool false, .none] } : Obj) →
      h'.Ns1 dx (fun y => if y = f then some u else none) → R (.ok (.ret (.ref e))) { s with heap := h', toks := tk }) :
    codeAny (model prog w) A (.call (.ref C) ⟨[u], []⟩) R s := by
  obtain ⟨nm, N, qn, bs, bm, hdct, sn, sub, ab, col, dd, k0, k1, k2, k3, k5, hC, hT⟩ := PySem.W.excInit_of X T.q
  obtain ⟨fI, cc, cda, q, params, body, scope, dV, kV, doc, pm, ct, oc, ccl, cl, an, od, cdd, cld, osl, ccs, csl, vs, tf, ar, e1, e2, e3, e4, e5, e6, e7, e8, e9, e10, e11, e12, e13, e14, e15, e16, e17, e18, e19, e20, e21⟩ := T.fn
  obtain ⟨p0, p1, p2, p3, p4, p5, p6, p7, p8, p9, el, rfl⟩ := e8
  obtain ⟨skd, snm, sgn, sco, smr⟩ := scope
  have e18 : skd = .function := e18
  subst e18
  obtain ⟨hp, g, d, t, os⟩ := s
  refine PySem.HandSPX.call_own T.FB hT hC (PySem.W.looks_findIn X e1) (fun self => PySem.W.bind_fn X self e2) (by rw [sizeLine_eq]; simp) ?_
  have kk : ∀ b o, hp.get? b = some o → ((hp.push (PySem.W.kdv_tup [u])).push (PySem.HandSPX.excO C hp.objs.size)).get? b = some o := fun b o e => Heap.get?_push_of_some _ (Heap.get?_push_of_some _ e)
  have he : ((hp.push (PySem.W.kdv_tup [u])).push (PySem.HandSPX.excO C hp.objs.size)).get? (hp.objs.size + 1) = some (PySem.HandSPX.excO C hp.objs.size) := by heap_get
  have sz : ((hp.push (PySem.W.kdv_tup [u])).push (PySem.HandSPX.excO C hp.objs.size)).objs.size = hp.objs.size + 2 := by simp [Heap.push]
  revert kk he sz
  generalize ((hp.push (PySem.W.kdv_tup [u])).push (PySem.HandSPX.excO C hp.objs.size)) = h0
  intro kk he sz
  have X0 : K.In h0 := X.keeps kk
  refine PySem.ks_codeAny_call_defAt (fd := PySem.W.ksFn "__init__" q params _ ⟨.function, snm, sgn, sco, smr⟩ dV kV doc pm an (.ref cda) ct cc) (binds := [(("self" : Str), .ref (hp.objs.size + 1)), (px, u)]) (room.make C [u] []).depth (X0 _ _ e3) rfl (lim.keeps kk) (PySem.W.codeRec_of X0 e4) rfl (BindsTo.of_eq (e9 _ _)) e21 (fun y hy => ?_) (fun h1 hns k1 => ?_) e19 e20 e18
  · rcases List.mem_cons.mp hy with rfl | hy
    · exact e16
    · rcases List.mem_cons.mp hy with rfl | hy
      · exact e17
      · cases hy
  have X1 : K.In h1 := X0.keeps k1
  have he1 := k1 _ _ he
  have hself : (fun x : Str => [(("self" : Str), Value.ref (hp.objs.size + 1)), (px, u)].reverse.lookup x) "self" = some (.ref (hp.objs.size + 1)) := by
    have z : (("self" : Str) == px) = false := by simpa using Ne.symm e13
    show List.lookup ("self" : Str) [(px, u), (("self" : Str), Value.ref (hp.objs.size + 1))] = _
    rw [List.lookup_cons, z, List.lookup_cons, beq_self_eq_true]
  have hpx : (fun x : Str => [(("self" : Str), Value.ref (hp.objs.size + 1)), (px, u)].reverse.lookup x) px = some u := by
    show List.lookup px [(px, u), (("self" : Str), Value.ref (hp.objs.size + 1))] = _
    rw [List.lookup_cons, beq_self_eq_true]
  generalize hen : callEnv (PySem.W.ksFn "__init__" q params [.Expr (.Call (.Attribute (.Call (.Name "super" p0) [] [] p1) "__init__" p2) [.Name px p3] [] p4) p5, .Assign [.Attribute (.Name "self" p6) f p7] (.Name px p8) p9] ⟨.function, snm, sgn, sco, smr⟩ dV kV doc pm an (.ref cda) ct cc) h0.objs.size fI = env
  have k_super : env.kindOf "super" = some .globalImplicit := by rw [← hen]; exact e14
  have k_class : env.kindOf "__class__" = some .free := by rw [← hen]; exact e15
  have k_self : env.kindOf "self" = some .local := by rw [← hen]; exact e16
  have k_px : env.kindOf px = some .local := by rw [← hen]; exact e17
  have k_fn : env.scope.kind = .function := by rw [← hen]; rfl
  have l_ns : h1.Ns env.locals fun x : Str => [(("self" : Str), Value.ref (hp.objs.size + 1)), (px, u)].reverse.lookup x := by rw [← hen]; exact hns
  have nsw : ∀ (x : Str) (p : Pos) (t : Option Expr) (l : Nat), swapsWith (.Name x p) t l env = pure false := fun _ _ _ _ => rfl
  have kk1 : ∀ b o, hp.get? b = some o → h1.get? b = some o := fun b o e => k1 _ _ (kk b o e)
  refine PySem.ks_wpAt_execs_cons (PySem.ks_wpAt_Expr_any (PySem.ks_wpAt_MethodCall (pl := do return (← importBound (.Call (.Name "super" p0) [] [] p1) env).getD true) ?_ ?_) ?_ ?_)
  · refine PySem.ks_wpAt_super_base (env := env) k_super k_class rfl (by rw [← hen]; rfl) (X1 _ _ e3) rfl e10 (by rw [← hen]; rfl) (X1 _ _ e5) rfl e6 S.f S.s ?_
    refine PySem.W.ks_loadName_global k_fn k_super (Calls.loadGlobal_builtin (env := env) (mg := mg) (mb := mb) (by rw [← hen]; exact G.keeps kk1) ng (by rw [← hen]; exact Bn.keeps kk1) (hb.trans (by decide +kernel)) ⟨rfl, ?_⟩)
    refine wpAny_loadName_free k_fn k_class (c := cc) (v := .ref C) (by rw [← hen]; rfl) ⟨_, X1 _ _ e7, rfl⟩ ?_
    rw [e11]
    refine wpAny_loadName_local k_fn k_self l_ns hself ?_
    refine PySem.ks_wpAny_isType_cls (kk1 _ _ hC) rfl ⟨rfl, ?_⟩
    refine PySem.ks_wpAny_call_super (kk1 _ _ hC) rfl he1 rfl (fun c e => by cases e) (PySem.W.looks_mroIn X1 T.sC) (fun h2 e_so k2 => ?_)
    have X2 : K.In h2 := X1.keeps k2
    have hm := T.sup
    cases hc : PySem.W.clsIn K C with
    | none =>
      unfold PySem.W.ks_superIn at hm
      rw [hc] at hm
      cases hm
    | some cd =>
      unfold PySem.W.ks_superIn at hm
      rw [hc] at hm
      have I2 : PySem.W.InstAt h2 (hp.objs.size + 1) (PySem.HandSPX.excO C hp.objs.size) C none := ⟨k2 _ _ he1, rfl, rfl, trivial⟩
      refine PySem.W.kxs_getMethod T.KF e_so (PySem.W.looks_opaque X2 T.opq) (l₀ := cd.mro) (fun A Q E s k q => wpAny_bind ((PySem.W.looks_clsIn X2 hc) A _ E s k (wpAny_pure q))) rfl X2 hm (I2.type.andThen (PySem.W.looks_subIn X2 T.sB)) (PySem.W.ks_ne X2 I2 hc) rfl ?_
      have km : ∀ b o, h2.get? b = some o → (h2.push (PySem.W.kxs_mw initId (hp.objs.size + 1))).get? b = some o := fun b o e => Heap.get?_push_of_some _ e
      have hmw : (h2.push (PySem.W.kxs_mw initId (hp.objs.size + 1))).get? h2.objs.size = some (PySem.W.kxs_mw initId (hp.objs.size + 1)) := Heap.get?_push_at rfl rfl
      have he3 := km _ _ (k2 _ _ he1)
      have k13 : ∀ b o, h1.get? b = some o → (h2.push (PySem.W.kxs_mw initId (hp.objs.size + 1))).get? b = some o := fun b o e => km _ _ (k2 _ _ e)
      revert km hmw he3 k13
      generalize h2.push (PySem.W.kxs_mw initId (hp.objs.size + 1)) = h3
      intro km hmw he3 k13
      refine PySem.W.kxs_callWith (i := initId) (x := hp.objs.size + 1) (by rfl) ?_
      show wpAny _ _ (evalArgs (.ref h2.objs.size) true ((false, eval (.Name px p3) env) :: backTo p4 (starEach [] env)) []) _ _ _
      refine Calls.evalArgs_plain ?_
      refine Calls.spliced_cons (PySem.ESX.ldL (l_ns.keeps k13) hpx (Calls.spliced_nil ⟨hmw, ?_⟩) k_fn k_px e12)
      have hC3 := k13 _ _ (kk1 _ _ hC)
      refine wpAny_call (codeAny_of_tree ?_)
      show wpAny _ _ (callAny (.ref h2.objs.size) ⟨[u], []⟩) _ _ _
      simp only [callAny]
      refine wpAny_bind (wpAny_load hmw ?_)
      simp only [PySem.W.kxs_mw, show (Value.type "method-wrapper" == Value.type "method" || Value.type "method-wrapper" == Value.type "builtin_function_or_method" || Value.type "method-wrapper" == Value.type "method-wrapper") = true by decide, if_true]
      refine PySem.W.KFB.if_so (by decide) ?_
      refine wpAny_bind (PySem.W.check_bound_init T.FB.toExcCallFacts hC3 he3 rfl ?_)
      refine wpAny_bind (wpAny_pure (wpAny_pure ?_))
      refine ⟨PySem.plainId_quiet T.FB.init.plain _, codeAny_builtin T.FB.initEntry ?_⟩
      refine PySem.W.exc_init_tree (cls := .ref C) (t0 := hp.objs.size) (dv := none) (c2 := .none) (c3 := .none) (b4 := .bool false) he3 (by rw [sizeLine_eq]; simp) (fun h4 k4 he4 _ => ?_)
      have far : ∀ {b : Addr} {o : Obj}, hp.get? b = some o → b ≠ hp.objs.size + 1 := fun e => Nat.ne_of_lt (Nat.lt_succ_of_lt (Heap.lt_size e))
      have kk4 : ∀ b o, hp.get? b = some o → h4.get? b = some o := fun b o e => k4 _ _ (far e) (k13 _ _ (kk1 _ _ e))
      have X4 : K.In h4 := X.keeps kk4
      have nL : env.locals ≠ hp.objs.size + 1 := by
        have z : env.locals = h0.objs.size := by rw [← hen]; rfl
        rw [z, sz]
        exact Nat.succ_ne_self _
      have l4 : h4.Ns env.locals fun x : Str => [(("self" : Str), Value.ref (hp.objs.size + 1)), (px, u)].reverse.lookup x := by
        obtain ⟨oL, es, ep, a1, a2⟩ := l_ns.keeps k13
        exact ⟨oL, es, ep, k4 _ _ nL a1, a2⟩
      refine PySem.ks_wpAt_execs_cons (PySem.ks_wpAt_Assign_Attr (PySem.wpAt_of_wpAny (PySem.ESX.ldL l4 hpx (PySem.ESX.ldL l4 hself ?_ k_fn k_self rfl) k_fn k_px e12)) rfl)
      refine PySem.W.set_plain X4 (od := none) ⟨he4, rfl, rfl, trivial⟩ T.sa (own_osa T.SF X4 he4 T.ov T.hd T.no (fun h5 tk dx k5 d5 ne5 he5 n5 => ?_))
      refine PySem.wpAt_of_wpAny (wpAny_execs_nil ⟨rfl, ?_⟩)
      exact hq h5 (hp.objs.size + 1) dx _ tk (fun b o e => k5 _ _ (far e) (kk4 _ _ e)) (Nat.le_succ _) (Nat.le_trans (Nat.le_of_lt (Nat.lt_of_succ_lt (Heap.lt_size he4))) d5) ne5 he5 n5
  · show (do
      let ov ← attributeBase (.Call (.Name "super" p0) [] [] p1) "__init__" env (eval (.Call (.Name "super" p0) [] [] p1) env)
      standAt p2.atName
      methodCall (.Call (.Name "super" p0) [] [] p1) "__init__" p2 p4 env ov 1 (backTo p4 (starEach [.Name px p3] env)) (backToKw p4 (keywordEach [] env))) = _
    unfold methodCall calleeOf methodCallPos
    rw [show methodCallForm 1 (backTo p4 (starEach [.Name px p3] env)) (backToKw p4 (keywordEach [] env)) = true from rfl, show (!true || p2.endLine == p4.line) = true from el]
    simp only [if_true, pure_bind, bind_assoc]
    rfl
  · unfold interactive
    rw [k_fn]
    rfl
  · rfl
end
end Mn

set_option maxHeartbeats 2000000
namespace Mn
open PySem PySem.Spec PyProof.Rows L2 NdefX
/-! ### raise C(e) -/
section
variable {X : Cx} {W : WX} {x px f file : Str} {C : Addr} {B newId initId : String} {bmB : List Value} {e : Expr} {p pos pos' : Pos}
theorem pmk_own {ta : L2.TA} (T : OwnX X.K C B newId initId bmB px f file) (S : Sup X.prog file) (k : RG 1 X.A) (hm : X.mg x = some (.ref C)) (ns : X.mg "super" = none) (ha : PA X [e] ta) (hg : Gl X x := by rfl) (hdb : (x == ("__debug__" : Str)) = false := by decide)
    (he : starEach [e] X.env = (false, eval e X.env) :: starEach [] X.env := by rfl) (hpl : (backTo pos (starEach [] X.env)).any (·.1) = false := by rfl) :
    PMk X (.Call (.Name x p) [e] [] pos) (fun σ H Q => ta σ H fun vs H1 => ∃ y, vs = [y] ∧ ∀ dx, H1 dx = none → Q (.ref C) (some dx) (upd H1 dx (.xd [(f, y)]))) := by
  intro pins s σ H Q I h
  refine wpAny_Call_Name_kw (ld_glob I hg hm ?_ hdb)
  refine PySem.W.callWith_K (h₀ := X.base) I.ok.mod.kin T.kC (thn (ha.run pos pins s σ H _ I h) fun us s1 ⟨vs, H1, I1, r1, y, ey, q1⟩ => ⟨I1.kIn, ?_⟩) he hpl
  subst ey
  obtain ⟨u, rfl, ry⟩ : ∃ u, us = [u] ∧ RelV y u := by
    cases r1 with
    | cons ry rr =>
      cases rr
      exact ⟨_, rfl, ry⟩
  show wpAny _ _ (call (.ref C) [u]) _ _ _
  obtain ⟨mb, hb1, hb2⟩ := I1.mod.blt
  refine wpAny_call (own_call T S I1.kIn (I1.mod.glob.keeps I1.bk) ns (hb1.keeps I1.bk) (hb2 _ (by decide)) (I1.mod.nolimit.keeps I1.bk) k.r (fun h' a dx t1 tk kp ha hd ne ea nd => ?_))
  obtain ⟨G, g1, g2⟩ := restrict h' fun b => decide (b ≠ a)
  have gk : ∀ b o, b ≠ a → h'.get? b = some o → G.get? b = some o := fun b o hb e => by
    rw [g1 b (by simpa using hb)]
    exact e
  have J : Inv X pins σ (upd H1 dx (.xd [(f, y)])) { s1 with heap := G, toks := tk } := I1.laid (fun b o e => gk b o (Nat.ne_of_lt (Nat.lt_of_lt_of_le (Heap.lt_size e) ha)) (kp b o e)) hd ⟨_, nd.at (fun o e => gk _ _ ne e), relO_put (fs := []) ry fun g => True.intro⟩
  refine ⟨a, _, _, _, _, .ref C, some dx, rfl, J, fun b o e => ?_, g2 a (by simp), ea, ⟨rfl, rfl⟩, rfl, rfl, ?_, rfl, I1.bare, raises_own T.exC T.tyC, q1 dx (I1.hok.fresh hd)⟩
  · by_cases hb : b = a
    · have e' : G.get? b = some o := e
      rw [hb, g2 a (by simp)] at e'
      cases e'
    · have e' : G.get? b = some o := e
      rw [g1 b (by simpa using hb)] at e'
      exact e'
  · rw [upd_ne (Ne.symm ne)]
    exact I1.hok.fresh ha
def cRaise (x f : Str) (ce : CEx) : CSx := fun C sc hc => ce C.xp sc hc fun d hc1 => C.xp ⟨x, [(f, d)]⟩ sc hc1
theorem cs_raise {l : Nat} {ce : CEx} (hr : RT l X W) (T : OwnX X.K C B newId initId bmB px f file) (S : Sup X.prog file) (hm : X.mg x = some (.ref C)) (ns : X.mg "super" = none) (h : CE X W e ce) (hl : 1 ≤ l := by decide) (hc : X.calm = true := by rfl) (hg : Gl X x := by rfl) (hdb : (x == ("__debug__" : Str)) = false := by decide)
    (he : starEach [e] X.env = (false, eval e X.env) :: starEach [] X.env := by rfl) (hpl : (backTo pos (starEach [] X.env)).any (·.1) = false := by rfl) : CS X W (.Raise (some (.Call (.Name x p) [e] [] pos)) none pos') (cRaise x f ce) :=
  ⟨ps_wk (ps_raise hc hr.t (pmk_own T S (hr.g.mono hl) hm ns (pa_cons h.p pa_nil he) hg hdb he hpl)) fun D σ H ⟨en, sc, hc, m, C', r, k, ff⟩ =>
    ⟨en, sc, hc, m, C'.xp, _, r, k, ff.xp, fun d hc1 px1 v H1 m1 x1 q1 => ⟨v, rfl, fun dx n => ff.xp _ sc hc1 px1 (.ref C) (some dx) σ _ m1 ((r.call x1).same (same_upd n)) ⟨hm, .inr ⟨dx, [(f, v)], rfl, upd_same, rfl, RepL.one (Rep.mono x1.mu (.same (same_upd n)) _ _ q1)⟩⟩⟩⟩⟩
end
/-! ### the state seen from here -/
def noOwn : List Sl → Bool
  | [] => true
  | .own _ :: _ => false
  | _ :: r => noOwn r
theorem noOwn_get : ∀ {sc : List Sl}, noOwn sc = true → ∀ (i : Nat) (ds : List D), sc[i]? ≠ some (Sl.own ds)
  | [], _, i, ds => by simp
  | .own _ :: _, h, _, _ => by cases h
  | .un :: r, h, 0, ds => by simp
  | .val _ :: r, h, 0, ds => by simp
  | .un :: r, h, i + 1, ds => by simpa using noOwn_get (sc := r) h i ds
  | .val _ :: r, h, i + 1, ds => by simpa using noOwn_get (sc := r) h i ds
section
variable {K : PySem.W.Frag} {en : En} {σ σ' : L2.St} {H H' : Hp} {sc sc' : List Sl} {hc hc' : CH} {m m' : Ms}
theorem Rs.here (r : Rs K en σ H sc hc m) (n : noOwn sc = true) : Rs K ⟨H, hc, m⟩ σ H sc hc m :=
  ⟨.refl r.toWd, r.slot, fun i ds e => absurd e (noOwn_get n i ds), fun i j ds es p e => absurd e (noOwn_get n i ds), r.len⟩
theorem Rs.reb (x : Ex K en H hc m) (r : Rs K ⟨H, hc, m⟩ σ' H' sc' hc' m') : Rs K en σ' H' sc' hc' m' := by
  refine ⟨x.trans r.toEx, r.slot, fun i ds e => ?_, r.sep, r.len⟩
  obtain ⟨p, vs, a1, a2, a3, a4⟩ := r.own i ds e
  refine ⟨p, vs, a1, a2, ?_, a4⟩
  cases z : en.H p with
  | none => rfl
  | some o => exact absurd a3 (x.live p o z)
theorem Rs.unset (r : Rs K en σ H sc hc m) (i : Nat) : Rs K en (σ.set i none) H (sc.set i .un) hc m := by
  have at_ : ∀ {j : Nat} {x : Sl}, (sc.set i .un)[j]? = some x → x ≠ .un → j ≠ i ∧ sc[j]? = some x := fun {j x} e nx => by
    by_cases h : j = i
    · subst h
      rw [List.getElem?_set] at e
      split at e
      · split at e
        · exact absurd (Option.some.inj e).symm nx
        · cases e
      · exact absurd rfl ‹_›
    · rw [List.getElem?_set_ne (Ne.symm h)] at e
      exact ⟨h, e⟩
  refine ⟨r.toEx, fun j d e => ?_, fun j ds e => ?_, fun j k ds es p e1 e2 e3 e4 => ?_, by rw [List.length_set, List.length_set]; exact r.len⟩
  · obtain ⟨h, e⟩ := at_ e (by simp)
    rw [List.getElem?_set_ne (Ne.symm h)]
    exact r.slot j d e
  · obtain ⟨h, e⟩ := at_ e (by simp)
    rw [List.getElem?_set_ne (Ne.symm h)]
    exact r.own j ds e
  · obtain ⟨h1, e1⟩ := at_ e1 (by simp)
    obtain ⟨h2, e2⟩ := at_ e2 (by simp)
    rw [List.getElem?_set_ne (Ne.symm h1)] at e3
    rw [List.getElem?_set_ne (Ne.symm h2)] at e4
    exact r.sep j k ds es p e1 e2 e3 e4
end
/-! ### try: .., except Z as n: .. -/
def unS (i : Nat) (C : CEnds) : CEnds := { nx := fun sc hc => C.nx (sc.set i .un) hc, rt := C.rt, bk := fun sc hc => C.bk (sc.set i .un) hc, ct := fun sc hc => C.ct (sc.set i .un) hc }
/-- ct: which classes the clause takes -/
def cTryAs (ct : List (Str × Bool)) (cb : CSx) (i : Nat) (cs : Addr → Str → Option Addr → CSx) : CSx := fun C sc hc => noOwn sc = true ∧ cb { C with xp := fun x sc1 hc1 => match ct.lookup x.cls with
  | some true => ∀ a dx, cs a x.cls dx (unS i C) (sc1.set i (.val (.exn a dx (x.fs.map (·.1)) (x.fs.map (·.2))))) hc1
  | some false => C.xp x sc1 hc1
  | none => False } sc hc
theorem RT.tr {X : Cx} {W W' : WX} {l : Nat} {pn : List (Addr × Obj)} {xe : Value → Shared → Prop} (r : RT l X W) (t : Takes (X.tr pn xe) W') (p : PassesOwn (model X.prog X.w) X.A X.env xe) : RT l (X.tr pn xe) W' := ⟨r.g, t, p⟩
section
variable {X : Cx} {W : WX} {body suite : List Stmt} {b₀ : Stmt} {z n : Str} {c : Value} {i l : Nat} {cb : CSx} {cs : Addr → Str → Option Addr → CSx} {ct : List (Str × Bool)} {np pos pos' : Pos}
theorem cs_try_as (hr : RT l X W) (hN : X.N.Nodup) (hc : Names X z c) (tb : ∀ y b, ct.lookup y = some b → ∀ cls, X.mg y = some cls → PySem.W.exmOne X.K cls c = some b)
    (hb : ∀ (W' : WX) (pn : List (Addr × Obj)) (xe : Value → Shared → Prop), RT l (X.tr pn xe) W' → CSs (X.tr pn xe) W' body cb)
    (hsu : ∀ (a : Addr) (oe : Obj) (y : Str) (cls : Value) (d : Option Addr) (pn : List (Addr × Obj)), X.mg y = some cls → Zc cls d oe → (∃ vs, oe.data = .fields vs) → CSs (X.suite a ((a, oe) :: pn)) W0 (b₀ :: suite) (cs a y d))
    (hi : X.N[i]? = some n := by rfl) (hln : X.env.kindOf n = some .local := by rfl) (hs : X.stack = X.env :: X.outer := by rfl) (hf : X.env.frame = some X.env.locals := by rfl) :
    CS X W (.Try body [.ExceptHandler (some (.Name z np)) (some n) (b₀ :: suite) pos'] [] [] pos) (cTryAs ct cb i cs) :=
  ⟨ps_wk (ps_try_as (tb := fun W' => LS X W' cb) (ts := fun a cls d D σ H => ∃ y, X.mg y = some cls ∧ LS X W0 (cs a y d) D σ H) hs hf hN hi hln hc hr.t (fun W' pn xe t p => pss_wk (hb W' pn xe (hr.tr t p)).p fun D σ H ⟨en, sc, hc, m, C, r, k, f⟩ => ⟨en, sc, hc, m, C, r, k, ⟨f.nx, f.bk, f.ct, f.rt, f.xp⟩⟩)
    (fun a oe cls d pn hz hv => ⟨fun pins s σ H D I ⟨y, hy, en, sc, hc, m, C, r, k, f⟩ => (hsu a oe y cls d pn hy hz hv).p.run pins s σ H D I ⟨en, sc, hc, m, C, r, k, ⟨f.nx, f.bk, f.ct, f.rt, f.xp⟩⟩⟩)) fun D σ H ⟨en, sc, hc0, m, C, r, ⟨no, k⟩, f⟩ => by
    refine ⟨⟨H, hc0, m⟩, sc, hc0, m, _, r.here no, k, ⟨fun sc' hc' q σ' H' m' r' s' => f.nx sc' hc' q σ' H' m' (r'.reb r.toEx) s', fun sc' hc' q σ' H' m' r' s' => f.bk sc' hc' q σ' H' m' (r'.reb r.toEx) s', fun sc' hc' q σ' H' m' r' s' => f.ct sc' hc' q σ' H' m' (r'.reb r.toEx) s', fun d hc' q v H' m' x' r' => f.rt d hc' q v H' m' (r.toEx.trans x') r', fun x sc1 hc1 px cls d σ1 H1 m1 r1 rx => ?_⟩⟩
    have st : Stp H m H1 m1 := r1.toEx.stp
    have r2 := r1.reb r.toEx
    have px : (match ct.lookup x.cls with
      | some true => ∀ a dx, cs a x.cls dx (unS i C) (sc1.set i (.val (.exn a dx (x.fs.map (·.1)) (x.fs.map (·.2))))) hc1
      | some false => C.xp x sc1 hc1
      | none => False) := px
    split at px
    · rename_i e
      refine ⟨true, tb _ _ e _ rx.1, fun _ a na => ⟨x.cls, rx.1, en, _, hc1, m1, unS i C, r2.put i (d := .exn a d (x.fs.map (·.1)) (x.fs.map (·.2))) (v := .ref a) ?_, px a d, ⟨fun sc' hc' q σ' H' m' r' s' => f.nx _ hc' q _ H' m' (r'.unset i) (st.trans s'), fun sc' hc' q σ' H' m' r' s' => f.bk _ hc' q _ H' m' (r'.unset i) (st.trans s'), fun sc' hc' q σ' H' m' r' s' => f.ct _ hc' q _ H' m' (r'.unset i) (st.trans s'), fun d hc' q v H' m' x' r' => f.rt d hc' q v H' m' x' r', fun _ _ _ z => z.elim⟩⟩, fun z => by cases z⟩
      unfold Rep
      rcases rx.2 with ⟨e1, e2⟩ | ⟨dx, fs, e1, e2, e3, e4⟩
      · exact ⟨rfl, [], .inl ⟨e2, by rw [e1]; rfl, rfl⟩, by rw [e1]; exact RepL.nil⟩
      · exact ⟨rfl, _, .inr ⟨dx, fs, e1, e2, e3, rfl⟩, e4⟩
    · rename_i e
      exact ⟨false, tb _ _ e _ rx.1, fun z => (by cases z), fun _ => f.xp x sc1 hc1 px cls d σ1 H1 m1 r2 rx⟩
    · exact px.elim⟩
end
/-! ### n.f, n the caught exception -/
def cXf (ys : List Str) (a : Addr) (y : Str) (d : Option Addr) (i : Nat) (f : Str) : CEx := fun _ sc hc P => ys.contains y = true ∧ match look sc i with
  | some (.exn a' d' ns xs) => a' = a ∧ d' = d ∧ (match (ns.zip xs).lookup f with
    | some v => P v hc
    | none => False)
  | _ => False
theorem repl_look {K : PySem.W.Frag} {H : Hp} {m : Ms} {f : Str} {dv : D} : ∀ {fs : List (Str × V)} {xs : List D}, RepL K H m xs (fs.map (·.2)) → ((fs.map (·.1)).zip xs).lookup f = some dv → ∃ v, fs.lookup f = some v ∧ Rep K H m dv v
  | [], xs, h, e => by simp at e
  | (g, v) :: fs, [], h, e => by simp at e
  | (g, v) :: fs, x :: xs, h, e => by
    unfold RepL at h
    obtain ⟨v', r, e1, q1, q2⟩ := h
    cases e1
    rw [List.map_cons, List.zip_cons_cons, List.lookup_cons] at e
    rw [List.lookup_cons]
    cases z : (f == g) with
    | true =>
      rw [z] at e
      cases e
      exact ⟨v, rfl, q1⟩
    | false =>
      rw [z] at e
      exact repl_look q2 e
theorem ce_xf {X : Cx} {a : Addr} {oe : Obj} {y n f : Str} {cls : Value} {d : Option Addr} {pn : List (Addr × Obj)} {np pos : Pos} {ys : List Str} {i : Nat} (tx : ∀ y, ys.contains y = true → ∃ C, X.mg y = some (.ref C) ∧ XfC X.K C ∧ PySem.W.findIn X.K (.ref C) f = some none)
    (hy : X.mg y = some cls) (hz : Zc cls d oe) (hv : ∃ vs, oe.data = .fields vs) (hi : X.N[i]? = some n := by rfl) (hvi : Vis X.env.scope n := by first | exact Or.inl rfl | exact Or.inr (Or.inl rfl) | exact Or.inr (Or.inr rfl)) (hd : (n == ("__debug__" : Str)) = false := by decide) (hcd : (n == ("__classdict__" : Str)) = false := by decide) :
    CE (X.suite a ((a, oe) :: pn)) W0 (.Attribute (.Name n np) f pos) (cXf ys a y d i f) := by
  refine ⟨⟨fun pins s σ H Q I ⟨en, sc, hc, m, E, P, r, ⟨hc1, k⟩, xo, fin⟩ => ?_⟩⟩
  obtain ⟨C, e1, T, hno⟩ := tx y hc1
  rw [hy] at e1
  cases e1
  refine (pe_xf T hno hz hv (pe_var (X := X.suite a ((a, oe) :: pn)) (pos := np) hi hvi hd hcd)).run pins s σ H Q I ?_
  split at k
  · rename_i a' d' ns xs el
    obtain ⟨rfl, rfl, k⟩ := k
    obtain ⟨v0, e1, q0⟩ := r.slot i _ (look_get el)
    unfold Rep at q0
    obtain ⟨rfl, vs, xf, q0⟩ := q0
    refine ⟨_, e1, rfl, rfl, ?_⟩
    split at k
    · rename_i dv ef
      rcases xf with ⟨_, rfl, _⟩ | ⟨dd, fs, e2, e3, rfl, rfl⟩
      · simp at ef
      · obtain ⟨v, e4, q4⟩ := repl_look q0 ef
        exact ⟨dd, fs, v, e2, e3, e4, fin _ hc k v H m (.refl r.toWd) q4⟩
    · exact k.elim
  · exact k.elim
end Mn

set_option maxHeartbeats 2000000
namespace Mn
open PySem PySem.Spec PyProof.Rows L2 NdefX
/-! ### own exceptions in the written part -/
/-- class x(..): def __init__(self, px): super().__init__(px); self.f = px; ve: over ValueError, else over LookupError -/
structure IniD where
  x : Str
  ve : Bool
  px : Str
  f : Str
  st : Stmt
def clsInit (s : Stmt) : Stmt := match s with
  | .ClassDef _ _ _ (b :: _) _ _ _ _ _ _ _ => b
  | _ => s
abbrev IniW : Type := Option (Str × Arguments × FuncBody × Scope × Addr × List Str × Addr)
def iniW (K : PySem.W.Frag) (x : Str) : IniW := match K.lookup (He.fAd K (x, some "__init__")) with
  | some ⟨_, _, .func fd, _⟩ => some (fd.name, fd.params, fd.body, fd.scope, fd.globals, fd.closure.map (·.1), fd.builtins)
  | _ => none
def IniD.val (d : IniD) : IniW := some ("__init__", defArgs d.st, .stmts (defBody d.st), defScope d.st, mainGlobals, ["__class__"], builtinsNs)
def bB (ve : Bool) : String := if ve then "ValueError" else "LookupError"
def bN (ve : Bool) : String := if ve then "ValueError.__new__" else "LookupError.__new__"
def bI (ve : Bool) : String := if ve then "ValueError.__init__" else "LookupError.__init__"
def bM (ve : Bool) : List Value := if ve then [.type "ValueError", .type "Exception", .type "BaseException", .type "object"] else [.type "LookupError", .type "Exception", .type "BaseException", .type "object"]
theorem bFB (ve : Bool) : PySem.ExcBaseFacts (bB ve) (bN ve) (bI ve) (bM ve) := by cases ve; exact PySem.F.excBase_LookupError; exact PySem.F.excBase_ValueError
theorem bSF (ve : Bool) : PySem.StoreFacts (bB ve) (bM ve) "object.__setattr__" "object" := by cases ve; exact PySem.F.store_LookupError; exact PySem.F.store_ValueError
theorem bKF (ve : Bool) : PySem.W.KxsFacts (bB ve) (bI ve) := by cases ve; exact PySem.W.kxs_LookupError; exact PySem.W.kxs_ValueError
def iniFB (K : PySem.W.Frag) (file : Str) (C : Addr) (o : Option Obj) : Bool := match o with
  | some ⟨_, _, .func fd, _⟩ => (match fd.code, fd.closure, fd.defaults with
    | .ref cda, [(_, cc)], .none => PySem.W.codeIn K (.ref cda) fd.qualname && ((match K.lookup cda with
      | some ⟨_, _, .fields vs, _⟩ => (match (vs[2]? : Option Value) with
        | some (Value.str fl _) => decide (fl = file)
        | _ => false)
      | _ => false) && (match K.lookup cc with
      | some ⟨_, _, .cell (some (.ref D)), _⟩ => decide (D = C)
      | _ => false))
    | _, _, _ => false)
  | _ => false
def ownB (K : PySem.W.Frag) (file : Str) (d : IniD) : Bool := (PySem.W.excInitIn K (He.ga K d.x) (bM d.ve) (bN d.ve) && PySem.W.excOver K (He.ga K d.x) (bM d.ve)) && ((PySem.W.hasDictIn K (He.ga K d.x) && (decide (PySem.W.findIn K (.ref (He.ga K d.x)) "__setattr__" = some (some (.builtin "object.__setattr__"))) &&
  decide (PySem.W.findIn K (.ref (He.ga K d.x)) d.f = some none))) && ((decide (PySem.W.ks_superIn K (He.ga K d.x) (He.ga K d.x) "__init__" = some (some (.builtin (bI d.ve)))) && (decide (PySem.W.subIn K (.ref (He.ga K d.x)) (.type (bB d.ve)) = some true) && decide (PySem.W.mroIn K (He.ga K d.x) (.ref (He.ga K d.x)) = some true))) &&
  ((decide (PySem.W.subIn K (.ref (He.ga K d.x)) (.type "BaseException") = some true) && (decide (PySem.W.typeIn K (.ref (He.ga K d.x)) = some (.type "type")) && PySem.W.keepIn K (.ref (He.ga K d.x)))) && ((decide (PySem.W.nsIn K cStatics "thirdparty.any" = some none) && xfB K (He.ga K d.x)) &&
  (decide (PySem.W.findIn K (.ref (He.ga K d.x)) "__init__" = some (some (.ref (He.fAd K (d.x, some "__init__"))))) && (decide (PySem.W.typeIn K (.ref (He.fAd K (d.x, some "__init__"))) = some (.type "function")) && iniFB K file (He.ga K d.x) (K.lookup (He.fAd K (d.x, some "__init__")))))))))
/-- what the text says of it, by looking -/
structure IniT (d : IniD) : Prop where
  body : IniBody d.px d.f (defBody d.st)
  bind : ∀ (q : Str) (kV doc pm : Value) (an : Option Addr) (cdv ct : Value) (cc : Addr) (a u : Value), bindArgs (PySem.W.ksFn "__init__" q (defArgs d.st) (defBody d.st) (defScope d.st) .none kV doc pm an cdv ct cc) ⟨[a, u], []⟩ = pure [(("self" : Str), a), (d.px, u)]
  head : ∃ ar : Arg, ((defArgs d.st).posonlyargs ++ (defArgs d.st).args).head? = some ar ∧ ar.arg = "self"
  dbg : (d.px == ("__debug__" : Str)) = false ∧ d.px ≠ "self"
  sup : (defScope d.st).names.lookup ("super" : Str) = some .globalImplicit
  cls : (defScope d.st).names.lookup ("__class__" : Str) = some .free
  slf : (defScope d.st).names.lookup ("self" : Str) = some .local
  par : (defScope d.st).names.lookup d.px = some .local
  kd : (defScope d.st).kind = .function
  co : (defScope d.st).isCoroutine = false
  gn : (defScope d.st).isGenerator = false
  nc : ∀ x ∈ (defScope d.st).names, x.2 ≠ .cell
/-- an own exception class by its name -/
def OwnC (K : PySem.W.Frag) (mg : Str → Option Value) (x px f file : Str) : Prop := ∃ (C : Addr) (B newId initId : String) (bmB : List Value), mg x = some (.ref C) ∧ OwnX K C B newId initId bmB px f file ∧ XfC K C
theorem ownC_of {K : PySem.W.Frag} {mg : Str → Option Value} {file : Str} {d : IniD} (h : ownB K file d = true) (e : iniW K d.x = d.val) (t : IniT d) (hm : mg d.x = some (.ref (He.ga K d.x))) : OwnC K mg d.x d.px d.f file := by
  unfold ownB at h
  simp only [Bool.and_eq_true] at h
  obtain ⟨⟨h1, h2⟩, ⟨h3, h4, h5⟩, ⟨h6, h7, h8⟩, ⟨h9, h10, h11⟩, ⟨h12, h13⟩, h14, h15, h16⟩ := h
  refine ⟨He.ga K d.x, _, _, _, _, hm, ⟨bFB d.ve, bSF d.ve, bKF d.ve, h1, h2, h3, of_decide_eq_true h4, of_decide_eq_true h5, of_decide_eq_true h6, of_decide_eq_true h7, of_decide_eq_true h8, of_decide_eq_true h9, of_decide_eq_true h10, h11, of_decide_eq_true h12, ?_⟩, xfB_ok h13⟩
  have e14 := of_decide_eq_true h14
  have e15 := of_decide_eq_true h15
  unfold iniW at e
  generalize He.fAd K (d.x, some "__init__") = fI at *
  cases q : K.lookup fI with
  | none =>
    rw [q] at e
    cases e
  | some o =>
    obtain ⟨oc, od, dt, osl⟩ := o
    rw [q] at e h16
    cases dt with
    | func fd =>
      obtain ⟨n1, n2, n3, n4, n5, n6, n7, n8, n9, n10, n11, n12, n13, n14, n15⟩ := fd
      have e2 : (some (n1, n3, n4, n5, n6, n7.map (·.1), n15) : IniW) = (some (("__init__" : Str), defArgs d.st, FuncBody.stmts (defBody d.st), defScope d.st, mainGlobals, [("__class__" : Str)], builtinsNs) : IniW) := e
      simp only [Option.some.injEq, Prod.mk.injEq] at e2
      obtain ⟨k1, k2, k3, k4, k5, k6, k7⟩ := e2
      subst k1 k2 k3 k4 k5 k7
      obtain ⟨cda, rfl⟩ : ∃ cda, n13 = .ref cda := by
        cases n13 <;> first | exact ⟨_, rfl⟩ | exact absurd h16 Bool.false_ne_true
      obtain ⟨nm, cc, rfl⟩ : ∃ nm cc, n7 = [(nm, cc)] := by
        rcases n7 with _ | ⟨⟨nm, cc⟩, _ | ⟨z, r⟩⟩
        · exact absurd h16 Bool.false_ne_true
        · exact ⟨nm, cc, rfl⟩
        · exact absurd h16 Bool.false_ne_true
      obtain rfl : n8 = .none := by
        cases n8 <;> first | rfl | exact absurd h16 Bool.false_ne_true
      have k6 : [nm] = [("__class__" : Str)] := k6
      cases k6
      have h17 : (PySem.W.codeIn K (.ref cda) n2 && ((match K.lookup cda with
        | some ⟨_, _, .fields vs, _⟩ => (match (vs[2]? : Option Value) with
          | some (Value.str fl _) => decide (fl = file)
          | _ => false)
        | _ => false) && (match K.lookup cc with
        | some ⟨_, _, .cell (some (.ref D)), _⟩ => decide (D = He.ga K d.x)
        | _ => false))) = true := h16
      · simp only [Bool.and_eq_true] at h17
        obtain ⟨c1, c2, c3⟩ := h17
        split at c2
        · rename_i a1 a2 vs a3 q2
          split at c2
          · rename_i fl tf q3
            have c2 := of_decide_eq_true c2
            subst c2
            split at c3
            · rename_i b1 b2 D b3 q4
              have c3 := of_decide_eq_true c3
              subst c3
              obtain ⟨ar, r1, r2⟩ := t.head
              exact ⟨fI, cc, cda, n2, _, _, _, .none, n9, n10, n11, n14, oc, a1, b1, n12, od, a2, b2, osl, a3, b3, vs, tf, ar, e14, e15, q, c1, q2, q3, q4, t.body, fun a u => t.bind n2 n9 n10 n11 n12 (.ref cda) n14 cc a u, r1, r2, t.dbg.1, t.dbg.2, t.sup, t.cls, t.slf, t.par, t.kd, t.co, t.gn, t.nc⟩
            · cases c3
          · cases c2
        · cases c2
    | _ => cases e
section
variable {X : Cx} {W : WX} {x px f file : Str} {e : Expr} {p pos pos' : Pos}
theorem cs_raiseC {l : Nat} {ce : CEx} (hr : RT l X W) (T : OwnC X.K X.mg x px f file) (S : Sup X.prog file) (ns : X.mg "super" = none) (h : CE X W e ce) (hl : 1 ≤ l := by decide) (hc : X.calm = true := by rfl) (hg : Gl X x := by rfl) (hdb : (x == ("__debug__" : Str)) = false := by decide)
    (he : starEach [e] X.env = (false, eval e X.env) :: starEach [] X.env := by rfl) (hpl : (backTo pos (starEach [] X.env)).any (·.1) = false := by rfl) : CS X W (.Raise (some (.Call (.Name x p) [e] [] pos)) none pos') (cRaise x f ce) := by
  obtain ⟨C, B, n1, n2, bm, hm, T, _⟩ := T
  exact cs_raise hr T S hm ns h hl hc hg hdb he hpl
end
theorem names_own {X : Cx} {x : Str} {C : Addr} (hm : X.mg x = some (.ref C)) (hg : Gl X x := by rfl) (hdb : (x == ("__debug__" : Str)) = false := by decide) : Names X x (.ref C) := ⟨hg, hdb, .inl hm⟩
/-- which classes another one takes -/
def ExmC (K : PySem.W.Frag) (mg : Str → Option Value) (y z : Str) (b : Bool) : Prop := ∃ C D, mg y = some (.ref C) ∧ mg z = some (.ref D) ∧ PySem.W.exmOne K (.ref C) (.ref D) = some b
theorem exm_nil {K : PySem.W.Frag} {mg : Str → Option Value} {c : Value} : ∀ (y : Str) (b : Bool), ([] : List (Str × Bool)).lookup y = some b → ∀ cls, mg y = some cls → PySem.W.exmOne K cls c = some b := fun y b e => by cases e
theorem exm_cons {K : PySem.W.Frag} {mg : Str → Option Value} {y z : Str} {b : Bool} {C : Addr} {ct : List (Str × Bool)} (h : ExmC K mg y z b) (hz : mg z = some (.ref C)) (r : ∀ (y : Str) (b : Bool), ct.lookup y = some b → ∀ cls, mg y = some cls → PySem.W.exmOne K cls (.ref C) = some b) :
    ∀ (y' : Str) (b' : Bool), ((y, b) :: ct).lookup y' = some b' → ∀ cls, mg y' = some cls → PySem.W.exmOne K cls (.ref C) = some b' := fun y' b' e cls hm => by
  obtain ⟨C1, D, e1, e2, e3⟩ := h
  rw [hz] at e2
  cases e2
  rw [List.lookup_cons] at e
  cases q : (y' == y) with
  | true =>
    rw [q] at e
    cases e
    rw [beq_iff_eq.mp q, e1] at hm
    cases hm
    exact e3
  | false =>
    rw [q] at e
    exact r y' b' e cls hm
theorem cs_try_asC {X : Cx} {W : WX} {body suite : List Stmt} {b₀ : Stmt} {z n : Str} {i l : Nat} {cb : CSx} {cs : Addr → Str → Option Addr → CSx} {ct : List (Str × Bool)} {np pos pos' : Pos} (hr : RT l X W) (hN : X.N.Nodup) (hc : ∃ C, X.mg z = some (.ref C))
    (tb : ∀ C, X.mg z = some (.ref C) → ∀ (y : Str) (b : Bool), ct.lookup y = some b → ∀ cls, X.mg y = some cls → PySem.W.exmOne X.K cls (.ref C) = some b)
    (hb : ∀ (W' : WX) (pn : List (Addr × Obj)) (xe : Value → Shared → Prop), RT l (X.tr pn xe) W' → CSs (X.tr pn xe) W' body cb)
    (hsu : ∀ (a : Addr) (oe : Obj) (y : Str) (cls : Value) (d : Option Addr) (pn : List (Addr × Obj)), X.mg y = some cls → Zc cls d oe → (∃ vs, oe.data = .fields vs) → CSs (X.suite a ((a, oe) :: pn)) W0 (b₀ :: suite) (cs a y d))
    (hg : Gl X z := by rfl) (hdb : (z == ("__debug__" : Str)) = false := by decide) (hi : X.N[i]? = some n := by rfl) (hln : X.env.kindOf n = some .local := by rfl) (hs : X.stack = X.env :: X.outer := by rfl) (hf : X.env.frame = some X.env.locals := by rfl) :
    CS X W (.Try body [.ExceptHandler (some (.Name z np)) (some n) (b₀ :: suite) pos'] [] [] pos) (cTryAs ct cb i cs) := by
  obtain ⟨C, h⟩ := hc
  exact cs_try_as hr hN (names_own h hg hdb) (tb C h) hb hsu hi hln hs hf
theorem e_TryAs {ct : List (Str × Bool)} {cb : CSx} {i : Nat} {cs : Addr → Str → Option Addr → CSx} {C : CEnds} {sc : List Sl} {hc : CH} : cTryAs ct cb i cs C sc hc = (noOwn sc = true ∧ cb { C with xp := fun x sc1 hc1 => match ct.lookup x.cls with
  | some true => ∀ a dx, cs a x.cls dx (unS i C) (sc1.set i (.val (.exn a dx (x.fs.map (·.1)) (x.fs.map (·.2))))) hc1
  | some false => C.xp x sc1 hc1
  | none => False } sc hc) := rfl
theorem e_Xf {ys : List Str} {a : Addr} {y : Str} {d : Option Addr} {i : Nat} {f : Str} {E : XP} {sc : List Sl} {hc : CH} {P : D → CH → Prop} : cXf ys a y d i f E sc hc P = (ys.contains y = true ∧ match look sc i with
  | some (.exn a' d' ns xs) => a' = a ∧ d' = d ∧ (match (ns.zip xs).lookup f with
    | some v => P v hc
    | none => False)
  | _ => False) := rfl
theorem own_at {K : PySem.W.Frag} {mg : Str → Option Value} {x px f file : Str} (T : OwnC K mg x px f file) : ∃ C, mg x = some (.ref C) := let ⟨C, _, _, _, _, h, _⟩ := T; ⟨C, h⟩
theorem tx_nil {K : PySem.W.Frag} {mg : Str → Option Value} {f : Str} : ∀ y : Str, ([] : List Str).contains y = true → ∃ C, mg y = some (.ref C) ∧ XfC K C ∧ PySem.W.findIn K (.ref C) f = some none := fun y e => by cases e
theorem tx_cons {K : PySem.W.Frag} {mg : Str → Option Value} {x px f file : Str} {ys : List Str} (T : OwnC K mg x px f file) (r : ∀ y : Str, ys.contains y = true → ∃ C, mg y = some (.ref C) ∧ XfC K C ∧ PySem.W.findIn K (.ref C) f = some none) :
    ∀ y : Str, (x :: ys).contains y = true → ∃ C, mg y = some (.ref C) ∧ XfC K C ∧ PySem.W.findIn K (.ref C) f = some none := fun y e => by
  rw [List.contains_cons, Bool.or_eq_true] at e
  rcases e with e | e
  · obtain ⟨C, _, _, _, _, h1, h2, h3⟩ := T
    rw [beq_iff_eq.mp e]
    exact ⟨C, h1, h3, h2.no⟩
  · exact r y e
theorem e_Raise {x f : Str} {ce : CEx} {C : CEnds} {sc : List Sl} {hc : CH} : cRaise x f ce C sc hc = ce C.xp sc hc fun d hc1 => C.xp ⟨x, [(f, d)]⟩ sc hc1 := rfl
/-! ### the hook -/
def obsXG (n : Nat) (fa : List He.Fa) (fn : List He.DefD) (tc : TupC) (lm : List Str) (file : Str) (ini : List IniD) (g : Addr → Option Obj) : ((He.AlD × Bool) × Bool) × (Bool × List IniW) :=
  (obsLG n fa fn tc lm g, (ini.all (ownB (He.frT g (He.asD g n ++ [sysModules, cStatics])) file), ini.map fun d => iniW (He.frT g (He.asD g n ++ [sysModules, cStatics])) d.x))
theorem map_val {K : PySem.W.Frag} : ∀ {ini : List IniD}, (ini.map fun d => iniW K d.x) = ini.map IniD.val → ∀ d ∈ ini, iniW K d.x = d.val
  | [], _, d, h => by cases h
  | a :: r, e, d, h => by
    injection e with e1 e2
    rcases List.mem_cons.mp h with rfl | h
    · exact e1
    · exact map_val e2 d h
def hookX (n : Nat) (fa : List He.Fa) (fn : List He.DefD) (tc : TupC) (lm : List Str) (file : Str) (ini : List IniD) : PySem.W.Hook where
  α := ((He.AlD × Bool) × Bool) × (Bool × List IniW)
  obs := fun s => obsXG n fa fn tc lm file ini s.heap.get?
  val := fun _ => (((He.valD fn, true), true), (true, ini.map IniD.val))
  says := fun _ h => ∃ K : PySem.W.Frag, K.In h ∧ SaysT fa fn tc K h ∧ (∀ x ∈ lm, lamN K x = true) ∧ ∀ d ∈ ini, ownB K file d = true ∧ iniW K d.x = d.val
  of := fun _ s e => by
    have e0 : obsLG n fa fn tc lm s.heap.get? = ((He.valD fn, true), true) := congrArg (fun z : ((He.AlD × Bool) × Bool) × (Bool × List IniW) => z.1) e
    have e1 : obsTG n fa fn tc s.heap.get? = (He.valD fn, true) := congrArg (fun z : (He.AlD × Bool) × Bool => z.1) e0
    have e2 : lm.all (lamN (He.frT s.heap.get? (He.asD s.heap.get? n ++ [sysModules, cStatics]))) = true := congrArg (fun z : (He.AlD × Bool) × Bool => z.2) e0
    have e3 : ini.all (ownB (He.frT s.heap.get? (He.asD s.heap.get? n ++ [sysModules, cStatics])) file) = true := congrArg (fun z : ((He.AlD × Bool) × Bool) × (Bool × List IniW) => z.2.1) e
    have e4 : (ini.map fun d => iniW (He.frT s.heap.get? (He.asD s.heap.get? n ++ [sysModules, cStatics])) d.x) = ini.map IniD.val := congrArg (fun z : ((He.AlD × Bool) × Bool) × (Bool × List IniW) => z.2.2) e
    exact ⟨He.frT s.heap.get? (He.asD s.heap.get? n ++ [sysModules, cStatics]), He.frT_in, saysT_of e1, fun x hx => List.all_eq_true.mp e2 x hx, fun d hd => ⟨List.all_eq_true.mp e3 d hd, map_val e4 d hd⟩⟩
  keeps := fun _ _ _ ⟨K, hK, ⟨c, d, t⟩, l⟩ k => ⟨K, PySem.W.Frag.In.keeps hK k, ⟨c, d, fun b hb => ⟨k _ _ (t b hb).1, (t b hb).2⟩⟩, l⟩
theorem obsXG_eq {n : Nat} {fa : List He.Fa} {fn : List He.DefD} {tc : TupC} {lm : List Str} {file : Str} {ini : List IniD} {g : Addr → Option Obj} {s : Shared} (h : ∀ a, g a = s.heap.get? a) : obsXG n fa fn tc lm file ini g = (hookX n fa fn tc lm file ini).obs s := by
  have e : g = s.heap.get? := funext h
  subst e
  rfl
end Mn

namespace Mn
open PySem PySem.Spec PyProof.Rows L2 NdefX
/-! ### defs as values -/
section
variable {X : Cx} {W : WX} {x g : Str} {p pos : Pos} {e : Expr} {es : List Expr} {c : CAx} {i l : Nat} {tbl : List (Str × Spc)}
/-- a def's name, read -/
def cFnV (x : Str) : CEx := fun _ _ hc P => P (.fn x) hc
theorem ce_fnv (hm : X.mg x = some (.ref (He.ga X.K x))) (hg : Gl X x := by rfl) (hdb : (x == ("__debug__" : Str)) = false := by decide) : CE X W (.Name x p) (cFnV x) :=
  ⟨⟨fun pins s σ H Q I ⟨en, sc, hc, m, E, P, r, k, xo, fin⟩ => ld_glob I hg hm ⟨.ref (He.ga X.K x), H, I, rfl, fin _ hc k _ H m (.refl r.toWd) (by unfold Rep; rfl)⟩ hdb⟩⟩
/-- g(..), g a name that holds one of some defs -/
def cCallF (tbl : List (Str × Spc)) (i : Nat) (c : CAx) : CEx := fun E sc hc P => match look sc i with
  | some (.fn x) => (match tbl.lookup x with
    | some sp => c E sc hc fun ds hc1 => sp ds hc1 P fun y hc2 => E y sc hc2
    | none => False)
  | _ => False
/-- the defs of such a table -/
def FtOk (X : Cx) (l : Nat) (tbl : List (Str × Spc)) : Prop := ∀ x sp, tbl.lookup x = some sp → X.mg x = some (.ref (He.ga X.K x)) ∧ ∃ (k : Nat) (ps : List Str), k ≤ l ∧ FnAt X.prog X.w X.K X.mg X.base k x ps sp
theorem ft_nil : FtOk X l [] := fun x sp e => by cases e
theorem ft_cons {k : Nat} {ps : List Str} {sp : Spc} (A : FnAt X.prog X.w X.K X.mg X.base k x ps sp) (hm : X.mg x = some (.ref (He.ga X.K x))) (r : FtOk X l tbl) (hl : k ≤ l := by decide) : FtOk X l ((x, sp) :: tbl) := fun y sp' e => by
  rw [List.lookup_cons] at e
  cases q : (y == x) with
  | true =>
    rw [q] at e
    cases e
    rw [beq_iff_eq.mp q]
    exact ⟨hm, k, ps, hl, A⟩
  | false =>
    rw [q] at e
    exact r y sp' e
theorem ce_callF (hr : RT l X W) (ht : FtOk X l tbl) (ha : CA X W (e :: es) c) (hN : X.N[i]? = some g := by rfl) (hv : Vis X.env.scope g := by first | exact Or.inl rfl | exact Or.inr (Or.inl rfl) | exact Or.inr (Or.inr rfl))
    (hd : (g == ("__debug__" : Str)) = false := by decide) (hcd : (g == ("__classdict__" : Str)) = false := by decide)
    (he : starEach (e :: es) X.env = (false, eval e X.env) :: starEach es X.env := by rfl) (hpl : (backTo pos (starEach es X.env)).any (·.1) = false := by rfl) : CE X W (.Call (.Name g p) (e :: es) [] pos) (cCallF tbl i c) := by
  refine ⟨⟨fun pins s σ H Q I ⟨en, sc, hc, m, E, P, r, kk, xo, fin⟩ => ?_⟩⟩
  unfold cCallF at kk
  split at kk
  case h_2 => exact kk.elim
  rename_i x el
  split at kk
  case h_2 => exact kk.elim
  rename_i sp et
  obtain ⟨v0, e1, q0⟩ := r.slot i _ (look_get el)
  unfold Rep at q0
  subst q0
  obtain ⟨hm, k, ps, hl, f, fd, F, hf, hk, hb, _⟩ := ht x sp et
  rw [hm] at hf
  cases hf
  refine wpAny_Call_Name_kw (thn ((pe_var (pos := p) hN hv hd hcd).run pins s σ H (fun v H1 => v = .ref (He.ga X.K x) ∧ H1 = H) I ⟨_, e1, rfl, rfl⟩) fun u s1 ⟨v, H1, I1, r1, q1⟩ => ?_)
  obtain ⟨rfl, rfl⟩ := q1
  cases r1
  refine PySem.W.callWith_K (h₀ := X.base) I1.ok.mod.kin hk (thn (ha.p.run pos pins s1 σ _ (fun vs H2 => toSp X.K X.mg sp (vs ++ []) H2 Q fun cls d H' => W cls d σ H') I1 ⟨en, sc, hc, m, E, _, r, kk, xo, fun ds hc1 hp vs H2 m2 x2 q2 => ?_⟩) fun us s2 ⟨vs, H2, I2, rr, q⟩ => ⟨I2.kIn, runX (F.mono hl) hr hb .nil I2 rr q⟩) he hpl
  show toSp X.K X.mg sp (vs ++ []) H2 Q _
  rw [List.append_nil]
  exact ⟨hc1, m2, ds, P, _, x2.toWd, q2, hp, fun d hc' pd v H' m' x q => fin d hc' pd v H' m' (x2.trans x) q, fun y hc' py cls dx H' m' x q => xo y sc hc' py cls dx σ H' m' (r.call (x2.trans x)) q⟩
end
theorem e_FnV {x : Str} {E : XP} {sc : List Sl} {hc : CH} {P : D → CH → Prop} : cFnV x E sc hc P = P (.fn x) hc := rfl
theorem e_CallF {tbl : List (Str × Spc)} {i : Nat} {c : CAx} {E : XP} {sc : List Sl} {hc : CH} {P : D → CH → Prop} : cCallF tbl i c E sc hc P = (match look sc i with
  | some (.fn x) => (match tbl.lookup x with
    | some sp => c E sc hc fun ds hc1 => sp ds hc1 P fun y hc2 => E y sc hc2
    | none => False)
  | _ => False) := rfl
theorem callF_at {tbl : List (Str × Spc)} {i : Nat} {c : CAx} {E : XP} {sc : List Sl} {hc : CH} {P : D → CH → Prop} {x : Str} (sp : Spc) (h1 : look sc i = some (.fn x)) (h2 : tbl.lookup x = some sp) (h : c E sc hc fun ds hc1 => sp ds hc1 P fun y hc2 => E y sc hc2) : cCallF tbl i c E sc hc P := by
  rw [e_CallF, h1]
  dsimp only
  rw [h2]
  exact h
/-! ### a def among some defs -/
theorem slot_fun_eq : Slot "function" "__eq__" "object.__eq__" :=
  .of (owner := "object") (n := "__eq__") (by rw [typeLookup_type, builtinLookup_eq_fast]; kernel_rfl) (by decide +kernel) (by decide +kernel) (by decide +kernel)
    (by first | exact .inl (by decide +kernel) | exact .inr (by decide +kernel)) (by rw [isSubtype_type]; kernel_rfl)
def FnO (h : Heap) (a : Addr) : Prop := ∃ o, h.get? a = some o ∧ o.cls = .type "function"
section
variable {prog : Program} {w : World} {A : Around} {E : Value → Shared → Prop} {s : Shared} {x y : Addr}
theorem tryEq_fn (hx : FnO s.heap x) (hy : FnO s.heap y) (hxy : x ≠ y) {Q : Option Value → Shared → Prop} (hq : Q none s) : wpAny (model prog w) A (tryCompare (.ref x) "__eq__" (.ref y)) Q E s := by
  obtain ⟨ox, ex, cx⟩ := hx
  obtain ⟨oy, ey, cy⟩ := hy
  have Tx : s.TypeIs (.ref x) "function" := ⟨_, ex, cx⟩
  simp only [tryCompare]
  refine wpAny_bind (wpAny_callSpecialIfBound?_slot (name := Str.ofString "__eq__") Tx slot_fun_eq (wpAny_call_entry slot_fun_eq Tx F.cmpEntry_eq (objEq_entry_other hxy ex ey (by rw [cx]; decide) ⟨_, rfl, ?_⟩) (F.cmpArgs_eq _ _)))
  exact wpAny_pure hq
theorem richEq_fn (hx : FnO s.heap x) (hy : FnO s.heap y) (hxy : x ≠ y) (hu : A.units < cLine) {Q : Value → Shared → Prop} (hq : Q (.bool false) s) : wpAny (model prog w) A (richCompare .Eq (.ref x) (.ref y)) Q E s := by
  obtain ⟨ox, ex, cx⟩ := id hx
  obtain ⟨oy, ey, cy⟩ := id hy
  have Tx : s.TypeIs (.ref x) "function" := ⟨_, ex, cx⟩
  have Ty : s.TypeIs (.ref y) "function" := ⟨_, ey, cy⟩
  simp only [richCompare, cmpInfo_Eq, oneThing_ref]
  refine wpAny_holding ?_
  refine wpAny_bind (wpAny_cRoomFor hu ?_)
  refine wpAny_bind (wpAny_typeOf Tx (wpAny_bind (wpAny_typeOf Ty ?_)))
  rw [if_neg (by decide)]
  refine wpAny_bind (wpAny_pure ?_)
  rw [if_neg (by decide)]
  refine wpAny_bind (tryEq_fn hx hy hxy ?_)
  refine wpAny_bind (tryEq_fn hy hx (Ne.symm hxy) ?_)
  repeat (first | with_reducible refine wpAny_isSame_ref_other hxy ex ey (by rw [cx]; decide) ?_ | wp_step)
  exact hq
theorem eqBool_fn (hx : FnO s.heap x) (hy : FnO s.heap y) (hu : A.units < cLine) {Q : Bool → Shared → Prop} (h : Q (decide (x = y)) s) : wpAny (model prog w) A (eqBool (.ref x) (.ref y)) Q E s := by
  by_cases e : x = y
  · subst e
    unfold eqBool
    refine wpAny_holding ?_
    rw [if_pos (by simp)]
    exact wpAny_bind (wpAny_rule (wpAny_pure (by simpa using h)))
  · exact GQ.eqBool_refG e (richEq_fn hx hy e hu ⟨false, rfl, by simpa [e] using h⟩)
theorem tuple_contains_fns {t : Addr} {items : Array Value} {ys : List Addr} {P : Fin → Shared → Prop} (ht : IsTup s.heap t items) (hi : items.toList = ys.map Value.ref) (hf : ∀ y ∈ ys, FnO s.heap y) (hx : FnO s.heap x) (hu : A.units < cLine)
    (h : P (.done (.ret (.bool (decide (x ∈ ys))))) s) : wpAny (model prog w) A (Builtin.«tuple.__contains__» ⟨[.ref t, .ref x], []⟩) P E s := by
  show wpAny _ _ (Builtin.Tuple.tupleItemsOf (.ref t) >>= _) _ _ s
  refine wpAny_bind (tupleItemsOf_ ht ?_)
  refine wpAny_bind (forIn_array_ _ (fun rest b s' => b.1 = none ∧ s' = s ∧ ∃ ms : List Addr, rest = ms.map Value.ref ∧ (∀ y ∈ ms, FnO s.heap y) ∧ P (.done (.ret (.bool (decide (x ∈ ms))))) s) _ ?_ ?_ items _ ⟨rfl, rfl, ys, hi, hf, h⟩)
  · rintro y rest b s' ⟨hb, rfl, ms, hm, hf, hP⟩
    cases ms with
    | nil => cases hm
    | cons n ms =>
      injection hm with h1 h2
      subst h1; subst h2
      refine wpAny_bind (eqBool_fn (hf _ List.mem_cons_self) hx hu ?_)
      by_cases e : n = x
      · subst e
        rw [decide_eq_true rfl]
        exact wpAny_bind (wpAny_pure (wpAny_pure (wpAny_pure (by simpa using hP))))
      · rw [decide_eq_false e]
        exact wpAny_pure ⟨rfl, rfl, ms, rfl, fun y hy => hf y (List.mem_cons_of_mem _ hy), by
          rw [show decide (x ∈ n :: ms) = decide (x ∈ ms) by simp [Ne.symm e]] at hP
          exact hP⟩
  · rintro ⟨b1, b2⟩ s' ⟨hb, rfl, ms, hm, hf, hP⟩
    cases ms with
    | cons n ms => cases hm
    | nil =>
      simp only at hb
      subst hb
      exact wpAny_pure (by simpa using hP)
theorem in_fns {t : Addr} {items : Array Value} {ys : List Addr} {Q : Value → Shared → Prop} (ht : IsTup s.heap t items) (hi : items.toList = ys.map Value.ref) (hf : ∀ y ∈ ys, FnO s.heap y) (hx : FnO s.heap x) (hu : A.units + 1 < cLine)
    (h : Q (.bool (decide (x ∈ ys))) s) : wpAny (model prog w) A (compareOp .In (.ref x) (.ref t)) Q E s := by
  show wpAny _ _ (do return .bool (← contains (.ref t) (.ref x))) Q E s
  refine wpAny_bind ?_
  unfold contains
  refine wpAny_holding ?_
  refine wpAny_bind (wpAny_specialOf ht.typeIs slot_tuple_contains.lookup ?_)
  rw [if_neg (by decide)]
  exact wpAny_bind (wpAny_callSpecialUnlessNone?_slot (name := Str.ofString "__contains__") ht.typeIs slot_tuple_contains
    (wpAny_call_entry slot_tuple_contains ht.typeIs entry_tuple_contains (tuple_contains_fns ht hi hf hx hu ⟨_, rfl, wpAny_truthy_bool (wpAny_pure h)⟩) (args_tuple_contains _ _)))
end
/-- these names are defs -/
def FvOk (K : PySem.W.Frag) (FV : List Str) : Prop := ∀ a ∈ FV, ∃ (od : Option Addr) (fd : FuncData) (sl : Array (Option Value)), K.lookup (He.ga K a) = some ⟨.type "function", od, .func fd, sl⟩ ∧ fd.name = a
def fvB (K : PySem.W.Frag) (a : Str) : Bool := match K.lookup (He.ga K a) with
  | some ⟨.type c, _, .func fd, _⟩ => decide (c = "function") && decide (fd.name = a)
  | _ => false
theorem fvB_ok {K : PySem.W.Frag} {FV : List Str} (h : FV.all (fvB K) = true) : FvOk K FV := fun a ha => by
  have e := List.all_eq_true.mp h a ha
  unfold fvB at e
  split at e
  · rename_i c od fd sl q
    rw [Bool.and_eq_true] at e
    have e1 := of_decide_eq_true e.1
    subst e1
    exact ⟨od, fd, sl, q, of_decide_eq_true e.2⟩
  · cases e
theorem FvOk.inj {K : PySem.W.Frag} {FV : List Str} (h : FvOk K FV) {a b : Str} (ha : a ∈ FV) (hb : b ∈ FV) (e : He.ga K a = He.ga K b) : a = b := by
  obtain ⟨o1, f1, s1, q1, n1⟩ := h a ha
  obtain ⟨o2, f2, s2, q2, n2⟩ := h b hb
  rw [e, q2] at q1
  cases q1
  exact n1.symm.trans n2
def inFD (FV : List Str) : O2 := fun x y _ P => match x, y with
  | .fn a, .tup ys => ∃ zs : List Str, ys = zs.map D.fn ∧ a ∈ FV ∧ (∀ z ∈ zs, z ∈ FV) ∧ P (.bl (decide (a ∈ zs)))
  | _, _ => False
theorem repl_fns {K : PySem.W.Frag} {H : Hp} {m : Ms} : ∀ {zs : List Str} {vs : List V}, RepL K H m (zs.map D.fn) vs → vs = zs.map fun z => V.ref (He.ga K z)
  | [], vs, h => by unfold RepL at h; exact h
  | z :: zs, vs, h => by
    rw [List.map_cons] at h
    unfold RepL at h
    obtain ⟨v, r, rfl, h1, h2⟩ := h
    unfold Rep at h1
    rw [h1, repl_fns h2]
    rfl
theorem vals_refs {f : Str → Addr} : ∀ {zs : List Str} {us : List Value}, Vals (zs.map fun z => V.ref (f z)) us → us = (zs.map f).map Value.ref
  | [], us, h => by cases h; rfl
  | z :: zs, us, h => by
    cases h with
    | cons h1 h2 =>
      cases h1
      rw [vals_refs h2]
      rfl
theorem op_inFD {X : Cx} {FV : List Str} {k : Nat} (hF : FvOk X.K FV) (g : RG k X.A) : OpR X (compareOp .In) (LV2 X.K (inFD FV)) := by
  intro pins s σ H x y v u Q I rx ry h
  obtain ⟨hc, m, dx, dy, P, w, h1, h2, f, fin⟩ := h
  have un := g.r.un
  unfold inFD at f
  split at f
  · rename_i a ys
    obtain ⟨zs, rfl, ha, hz, k⟩ := f
    unfold RepW Rep at h1 h2
    subst h1
    obtain ⟨p, vs, rfl, sq, rl⟩ := h2
    have ev := repl_fns rl
    subst ev
    obtain ⟨its, o, n, rv, e1, e2, e3⟩ := sqT_at I.hok I.kIn sq
    have eu := vals_refs rv
    subst eu
    cases rx
    cases ry
    have fo : ∀ z ∈ FV, FnO s.heap (He.ga X.K z) := fun z hz => by
      obtain ⟨od, fd, sl, q, _⟩ := hF z hz
      exact ⟨_, I.kIn _ _ q, rfl⟩
    refine in_fns (ys := zs.map (He.ga X.K)) ⟨o, e1, e2, n, e3⟩ (by simp) (fun y hy => ?_) (fo a ha) (by omega) ⟨.bl (decide (a ∈ zs)), H, I, ?_, fin _ k _ _ (.refl H) rep_blv⟩
    · obtain ⟨z, h3, rfl⟩ := List.mem_map.mp hy
      exact fo z (hz z h3)
    · show Value.bool _ = Value.bool _
      congr 1
      refine decide_eq_decide.mpr ⟨fun hm => ?_, fun hm => List.mem_map_of_mem hm⟩
      obtain ⟨z, h3, e⟩ := List.mem_map.mp hm
      rw [← hF.inj (hz z h3) ha e]
      exact h3
  · exact f.elim
theorem o_inF {FV : List Str} {a : Str} {ys : List D} {hc : CH} {P : D → Prop} : inFD FV (.fn a) (.tup ys) hc P = ∃ zs : List Str, ys = zs.map D.fn ∧ a ∈ FV ∧ (∀ z ∈ zs, z ∈ FV) ∧ P (.bl (decide (a ∈ zs))) := rfl
/-! ### the hook, with them -/
def obsYG (n : Nat) (fa : List He.Fa) (fn : List He.DefD) (tc : TupC) (lm : List Str) (file : Str) (ini : List IniD) (fv : List Str) (g : Addr → Option Obj) : (((He.AlD × Bool) × Bool) × (Bool × List IniW)) × Bool :=
  (obsXG n fa fn tc lm file ini g, fv.all (fvB (He.frT g (He.asD g n ++ [sysModules, cStatics]))))
def hookY (n : Nat) (fa : List He.Fa) (fn : List He.DefD) (tc : TupC) (lm : List Str) (file : Str) (ini : List IniD) (fv : List Str) : PySem.W.Hook where
  α := (((He.AlD × Bool) × Bool) × (Bool × List IniW)) × Bool
  obs := fun s => obsYG n fa fn tc lm file ini fv s.heap.get?
  val := fun _ => ((((He.valD fn, true), true), (true, ini.map IniD.val)), true)
  says := fun _ h => ∃ K : PySem.W.Frag, K.In h ∧ SaysT fa fn tc K h ∧ (∀ x ∈ lm, lamN K x = true) ∧ (∀ d ∈ ini, ownB K file d = true ∧ iniW K d.x = d.val) ∧ FvOk K fv
  of := fun _ s e => by
    have ex : obsXG n fa fn tc lm file ini s.heap.get? = (((He.valD fn, true), true), (true, ini.map IniD.val)) := congrArg (fun z : (((He.AlD × Bool) × Bool) × (Bool × List IniW)) × Bool => z.1) e
    have ey : fv.all (fvB (He.frT s.heap.get? (He.asD s.heap.get? n ++ [sysModules, cStatics]))) = true := congrArg (fun z : (((He.AlD × Bool) × Bool) × (Bool × List IniW)) × Bool => z.2) e
    have e0 : obsLG n fa fn tc lm s.heap.get? = ((He.valD fn, true), true) := congrArg (fun z : ((He.AlD × Bool) × Bool) × (Bool × List IniW) => z.1) ex
    have e1 : obsTG n fa fn tc s.heap.get? = (He.valD fn, true) := congrArg (fun z : (He.AlD × Bool) × Bool => z.1) e0
    have e2 : lm.all (lamN (He.frT s.heap.get? (He.asD s.heap.get? n ++ [sysModules, cStatics]))) = true := congrArg (fun z : (He.AlD × Bool) × Bool => z.2) e0
    have e3 : ini.all (ownB (He.frT s.heap.get? (He.asD s.heap.get? n ++ [sysModules, cStatics])) file) = true := congrArg (fun z : ((He.AlD × Bool) × Bool) × (Bool × List IniW) => z.2.1) ex
    have e4 : (ini.map fun d => iniW (He.frT s.heap.get? (He.asD s.heap.get? n ++ [sysModules, cStatics])) d.x) = ini.map IniD.val := congrArg (fun z : ((He.AlD × Bool) × Bool) × (Bool × List IniW) => z.2.2) ex
    exact ⟨He.frT s.heap.get? (He.asD s.heap.get? n ++ [sysModules, cStatics]), He.frT_in, saysT_of e1, fun x hx => List.all_eq_true.mp e2 x hx, fun d hd => ⟨List.all_eq_true.mp e3 d hd, map_val e4 d hd⟩, fvB_ok ey⟩
  keeps := fun _ _ _ ⟨K, hK, ⟨c, d, t⟩, l⟩ k => ⟨K, PySem.W.Frag.In.keeps hK k, ⟨c, d, fun b hb => ⟨k _ _ (t b hb).1, (t b hb).2⟩⟩, l⟩
theorem obsYG_eq {n : Nat} {fa : List He.Fa} {fn : List He.DefD} {tc : TupC} {lm : List Str} {file : Str} {ini : List IniD} {fv : List Str} {g : Addr → Option Obj} {s : Shared} (h : ∀ a, g a = s.heap.get? a) : obsYG n fa fn tc lm file ini fv g = (hookY n fa fn tc lm file ini fv).obs s := by
  have e : g = s.heap.get? := funext h
  subst e
  rfl
end Mn

namespace Mn
open PySem PySem.Spec PyProof.Rows L2
/-! ### x, y, .. = [], e, .. with x its own list -/
def cParN (i n : Nat) (ca : CAx) (gs : CGsx) : CSx := fun C sc hc => ca C.xp sc hc fun ds hc1 => (ds.length = n ∧ n + 1 ≤ sizeLine) ∧ gs C.xp ds (sc.set i (.own [])) hc1 fun sc2 hc2 => C.nx sc2 hc2
section
variable {X : Cx} {W : WX} {ca : CAx} {gs : CGsx} {pos : Pos}
theorem cs_parN {i n : Nat} {x : Str} {ts es : List Expr} {px pt p3 : Pos} {kt k2 : Nat} {p2 : Pos} (hc : X.calm = true) (hN : X.N.Nodup) (hb : CA X W es ca) (hg : CGs X W ts gs) (hi : X.N[i]? = some x := by rfl)
    (hx : Loc X.env.scope x := by first | exact Or.inl rfl | exact Or.inr rfl) (hf : X.fn x = true ∨ X.env.scope.names.lookup x = some .local := by first | exact .inl rfl | exact .inr rfl)
    (hn : (assignEach (.Name x px :: ts) X.env).length = n + 1 := by rfl) (hst : (assignEach (.Name x px :: ts) X.env).findIdx? (·.1) = none := by rfl)
    (hs : (assignEach (.Name x px :: ts) X.env).map (·.2) = assign (.Name x px) X.env :: (assignEach ts X.env).map (·.2) := by rfl)
    (h1 : starEach (.List [] p3 :: es) X.env = (false, eval (.List [] p3) X.env) :: starEach es X.env := by rfl)
    (h2 : swapsWithSole [.Tuple (.Name x px :: ts) kt pt] (.Tuple (.List [] p3 :: es) k2 p2) pos.line X.env = pure false := by rfl)
    (h3 : swappedStores [.Tuple (.Name x px :: ts) kt pt] (.Tuple (.List [] p3 :: es) k2 p2) X.env = pure none := by rfl)
    (h4 : (assignEach [.Tuple (.Name x px :: ts) kt pt] X.env).map (·.2) = [assign (.Tuple (.Name x px :: ts) kt pt) X.env] := by rfl) :
    CS X W (.Assign [.Tuple (.Name x px :: ts) kt pt] (.Tuple (.List [] p3 :: es) k2 p2) pos) (cParN i n ca gs) :=
  ⟨ps_wk (ps_asg (pe_tup (pa_cons (pe_lst pa_nil) hb.p h1)) (pg_tup hc (pgs_cons (pg_name hN hi hx hf) hg.p hs) hn hst) h2 h3 h4) fun D σ H ⟨en, sc, hc, m, C, r, k, f⟩ => by
    refine ⟨by show (0 : Nat) ≤ sizeLine; exact Nat.zero_le _, fun p n => ?_⟩
    obtain ⟨r1, s1, e0, hn, no⟩ := r.tmp (ds := []) n RepL.nil
    refine ⟨en, sc, hc, _, C.xp, _, r1, k, f.xp, fun ds hc2 pd vs H2 m2 x2 q2 => ?_⟩
    have r2 := r1.call x2
    have hc2n : hc2 p = none := by
      cases e : hc2 p with
      | none => rfl
      | some ds =>
        rcases x2.hgrow p ds e with z | z
        · exact (z hn).elim
        · rw [show (⟨upd H p (.lst []), hc, fun a => m a ∨ a = p⟩ : En).H p = some (.lst []) from upd_same] at z; cases z
    have hp2 := x2.keep p _ upd_same trivial hn
    refine ⟨by rw [List.length_cons, ← q2.length, pd.1.1]; exact pd.1.2, fun t nt => ⟨t, _, rfl, .inl (.inl upd_same), by rw [List.length_cons, ← q2.length, pd.1.1], .ref p, vs, rfl, ?_⟩⟩
    have x3 := Ex.same r2.toWd (same_upd (o := .tup (.ref p :: vs)) nt)
    have r3 := r2.call x3
    have tp : p ≠ t := fun z => by rw [← z, hp2] at nt; cases nt
    have r4 := r3.owned i (x2.hold p (.inr rfl) hn) e0 hc2n (by rw [upd_ne tp]; exact hp2) no
    exact ⟨en, _, hc2, m2, C.xp, ds, _, r4, RepL.mono r2.mu x3.stp _ _ q2, pd.2, f.xp, (f.nx.step (s1.trans (x2.stp.trans x3.stp)))⟩⟩
end
theorem e_ParN {i n : Nat} {ca : CAx} {gs : CGsx} {C : CEnds} {sc : List Sl} {hc : CH} : cParN i n ca gs C sc hc = ca C.xp sc hc fun ds hc1 => (ds.length = n ∧ n + 1 ≤ sizeLine) ∧ gs C.xp ds (sc.set i (.own [])) hc1 fun sc2 hc2 => C.nx sc2 hc2 := rfl
/-! ### range(i, j, c) upwards, of any ends and any step above nought -/
theorem longTurnC {P : Program} {w : World} {K : PySem.W.Frag} {tg : Expr} (b0 : Addr) (l c : Int) (n : Nat) : Turn P w K tg (Itc l c n) [b0] b0 (fun i g => IsLongIter g b0 (l + (i : Nat) * c) ((n : Int) - (i : Nat)) c) where
  mem := List.mem_singleton.mpr rfl
  obj := fun i g st b hb => by
    cases List.mem_singleton.mp hb
    refine ⟨_, st, fun v z => ?_⟩
    have z2 : Data.fields _ = Data.cell v := z
    cases z2
  keep := fun i g g' st k => k b0 (List.mem_singleton.mpr rfl) _ st
  item := fun X hP hw hK hc i pins s σ H E I hf st hg => by
    subst hP; subst hw; subst hK
    obtain ⟨f0, f1, f2, f3, f4, f5⟩ := hf b0 (List.mem_singleton.mpr rfl)
    refine (Walks.longrange (prog := X.prog) (w := X.w) (I.ok.hd hc) b0 l c n).item i s _ _ hg st fun v g tk hv st2 kk => ?_
    obtain ⟨t, rfl⟩ := hv
    have I2 : Inv X pins σ H { s with heap := g, toks := tk } := I.turned (fun b o hb e => kk b o (fun z => hb (List.mem_singleton.mp z)) e) f0 f1 f3 f4 f5
    exact ⟨_, rfl, go_of (s := { s with heap := g, toks := tk }) (n := "longrange_iterator") st2 rfl rfl (by decide) ⟨.int (l + (i : Nat) * c), H, I2, ⟨t, rfl⟩, ⟨rfl, rfl⟩, st2, fun b hb => (hf b hb).1⟩⟩
  done := fun X hP hw hK hc i pins s σ H E I hf st hg => by
    subst hP; subst hw; subst hK
    obtain ⟨f0, f1, f2, f3, f4, f5⟩ := hf b0 (List.mem_singleton.mpr rfl)
    refine wpAny_pyNext_long_end (I.ok.hd hc) st ?_ fun g eb => ⟨rfl, I.turned (t' := s.toks) (fun b o hb e => eb b o hb e) f0 f1 f3 f4 f5⟩
    have : n ≤ i := hg
    omega
  self := fun _ _ _ _ _ st h => wpAny_pyIter_longiter st h
theorem rangeC_nn {l u c : Int} (c0 : 0 < c) : 0 ≤ Builtin.Range.rangeSize l u c := by
  unfold Builtin.Range.rangeSize
  rw [if_pos c0]
  split
  · have := Int.ediv_nonneg (show 0 ≤ u - l - 1 by omega) (Int.le_of_lt c0)
    omega
  · exact Int.le_refl _
theorem rangeAnyC {pins : List (Addr × Obj)} {σ : L2.St} {H : Hp} {s : Shared} {R : It → Hp → Prop} {E : Value → Shared → Prop} {X : Cx} {tg : Expr} {l u c : Int} {t1 t2 t3 : Tok} {tk : Nat} (I : Inv X pins σ H s) (c0 : 0 < c)
    (q : R (Itc l c (Builtin.Range.rangeSize l u c).toNat) H) : wpAny (model X.prog X.w) X.A (pyIter (.ref s.heap.objs.size)) (PIE X pins σ tg R) E { s with heap := s.heap.push { cls := .type "range", data := .fields #[.int l t1, .int u t2, .int c t3] }, toks := tk } := by
  have I1 : Inv X pins σ H { s with heap := s.heap.push { cls := .type "range", data := .fields #[.int l t1, .int u t2, .int c t3] }, toks := tk } := I.kept fun b o e => Heap.get?_push_of_some _ e
  have e1 : l + ((0 : Nat) : Int) * c = l := by simp
  have e2 : (((Builtin.Range.rangeSize l u c).toNat : Nat) : Int) - ((0 : Nat) : Int) = Builtin.Range.rangeSize l u c := by
    have := rangeC_nn (l := l) (u := u) c0
    omega
  cases hs : Builtin.Range.small l u c with
  | true =>
    refine wpAny_pyIter_range (IsRange.new ..) hs ?_
    refine ⟨_, [_], _, _, H, rfl, I1.kept (t' := tk) fun b o e => Heap.get?_push_of_some _ e, turn_rangeC _ l c (Builtin.Range.rangeSize l u c).toNat, ?_, fun b hb => ?_, q⟩
    · show IsRangeIter _ _ (l + ((0 : Nat) : Int) * c) ((((Builtin.Range.rangeSize l u c).toNat : Nat) : Int) - ((0 : Nat) : Int)) c
      rw [e1, e2]
      exact Heap.get?_push_size _ rfl
    · cases List.mem_singleton.mp hb
      exact I1.fpOk (Nat.le_refl _) (I1.hok.fresh (Nat.le_refl _))
  | false =>
    refine wpAny_pyIter_longrange (IsRange.new ..) hs ?_
    refine ⟨_, [_], _, _, H, rfl, I1.kept (t' := tk) fun b o e => Heap.get?_push_of_some _ e, longTurnC _ l c (Builtin.Range.rangeSize l u c).toNat, ?_, fun b hb => ?_, q⟩
    · show IsLongIter _ _ (l + ((0 : Nat) : Int) * c) ((((Builtin.Range.rangeSize l u c).toNat : Nat) : Int) - ((0 : Nat) : Int)) c
      rw [e1, e2]
      exact Heap.get?_push_size _ rfl
    · cases List.mem_singleton.mp hb
      exact I1.fpOk (Nat.le_refl _) (I1.hok.fresh (Nat.le_refl _))
def rngS (lo c : Int) (n : Nat) : List D := (List.range n).map fun k : Nat => D.int (lo + (k : Int) * c)
theorem rngS_yields {K : PySem.W.Frag} {H : Hp} {m : Ms} (lo c : Int) (n : Nat) : Yields K (Itc lo c n) (rngS lo c n) H m := fun H2 m2 mo s2 i => by
  refine ⟨fun d e => ?_, fun hl => ?_⟩
  · unfold rngS at e
    rw [List.getElem?_map] at e
    by_cases lt : i < n
    · rw [List.getElem?_range lt] at e
      cases e
      refine ⟨lt, fun x H3 y => ?_⟩
      obtain ⟨e1, e2⟩ := y
      subst e1; subst e2
      exact ⟨.refl _, rep_int⟩
    · rw [List.getElem?_eq_none (by rw [List.length_range]; omega)] at e
      cases e
  · unfold rngS at hl
    rw [List.length_map, List.length_range] at hl
    exact hl
theorem rngS_at {lo c : Int} {n j : Nat} {d : D} (h : (rngS lo c n)[j]? = some d) : d = .int (lo + j * c) ∧ j < n := by
  unfold rngS at h
  rw [List.getElem?_map] at h
  by_cases lt : j < n
  · rw [List.getElem?_range lt] at h
    cases h
    exact ⟨rfl, lt⟩
  · rw [List.getElem?_eq_none (by rw [List.length_range]; omega)] at h
    cases h
theorem rngS_len {lo c : Int} {n : Nat} : (rngS lo c n).length = n := by
  unfold rngS
  rw [List.length_map, List.length_range]
def tR3 (ta : L2.TA) : TI := fun σ H R => ta σ H fun vs H1 => ∃ (i j c : Int), vs = [.int i, .int j, .int c] ∧ (0 < c ∧ Builtin.divisionGoesByPylong (j - i) c = false) ∧ R (Itc i c (Builtin.Range.rangeSize i j c).toNat) H1
def cR3P (ca : CAx) : CIx := fun E sc hc P => ca E sc hc fun ds hc1 => match ds with | [.int i, .int j, .int c] => DivOk (j - i) c ∧ P (rngS i c (Builtin.Range.rangeSize i j c).toNat) hc1 | _ => False
section
variable {X : Cx} {W : WX} {tg e : Expr} {ca : CAx} {pos : Pos}
theorem piR3 {a b c : Expr} {ta : L2.TA} {p pos : Pos} (hg : Gl X "range") (hm : X.mg "range" = none) (ha : PA X [a, b, c] ta)
    (hs : starEach [a, b, c] X.env = (false, eval a X.env) :: starEach [b, c] X.env := by rfl) (hpl : (backTo pos (starEach [b, c] X.env)).any (·.1) = false := by rfl) :
    PI X tg (.Call (.Name "range" p) [a, b, c] [] pos) (tR3 ta) := by
  refine ⟨fun pins s σ H R I h => ?_⟩
  refine Call_ (ld_blt I hg hm boot_range (PyProof.Rows.callWith_type1 (thn (ha.run pos pins s σ H _ I h) fun us s1 ⟨vs, H1, I1, r1, q1⟩ => ?_) hs hpl))
  obtain ⟨i, j, k, rfl, ⟨c0, c1⟩, q⟩ := q1
  obtain _ | ⟨r, rr⟩ := r1
  obtain _ | ⟨r', rr⟩ := rr
  obtain _ | ⟨r'', rr⟩ := rr
  cases rr
  obtain ⟨t, rfl⟩ := r
  obtain ⟨t', rfl⟩ := r'
  obtain ⟨t'', rfl⟩ := r''
  exact call_range_3 (by omega) (rangeAnyC I1 c0 q) (.inl c1)
theorem ci_r3p {e2 e3 : Expr} {p2 : Pos} (hm : X.mg "range" = none) (h : CA X W [e, e2, e3] ca) (hg : Gl X "range" := by rfl)
    (hs : starEach [e, e2, e3] X.env = (false, eval e X.env) :: starEach [e2, e3] X.env := by rfl) (hpl : (backTo pos (starEach [e2, e3] X.env)).any (·.1) = false := by rfl) :
    CI X W tg (.Call (.Name "range" p2) [e, e2, e3] [] pos) (cR3P ca) := ⟨pi_wk (piR3 hg hm h.p hs hpl) fun σ H R ⟨en, sc, hc, m, E, P, r, k, xo, fin⟩ =>
  ⟨en, sc, hc, m, E, _, r, k, xo, fun ds hc1 p vs H1 m1 x1 q => by
    split at p
    · unfold RepL at q
      obtain ⟨v, _, rfl, q1, q⟩ := q
      unfold RepL at q
      obtain ⟨v2, _, rfl, q2, q⟩ := q
      unfold RepL at q
      obtain ⟨v3, _, rfl, q3, q⟩ := q
      unfold RepL at q; unfold Rep at q1 q2 q3
      subst q; subst q1; subst q2; subst q3
      obtain ⟨dk, p⟩ := p
      exact ⟨_, _, _, rfl, ⟨dk.1, dk.2⟩, fin _ hc1 p _ H1 m1 x1 (rngS_yields _ _ _)⟩
    · exact p.elim⟩⟩
end
theorem e_R3P {ca : CAx} {E : XP} {sc : List Sl} {hc : CH} {P : List D → CH → Prop} : cR3P ca E sc hc P = ca E sc hc fun ds hc1 => match ds with | [.int i, .int j, .int c] => DivOk (j - i) c ∧ P (rngS i c (Builtin.Range.rangeSize i j c).toNat) hc1 | _ => False := rfl
end Mn

set_option maxHeartbeats 4000000
/-! ### isinstance of a caught error that has fields -/
namespace Mn
open PySem PySem.Spec PyProof.Rows PySem.Calls PySem.W
section
variable {prog : Program} {w : World} {A : Around} {E : Value → Shared → Prop} {s : Shared} {K : PySem.W.Frag} {x D : Addr} {ox : Obj} {od : Option Obj}
theorem findO {C : Addr} {name : Str} {a g : Value} (hc : (clsIn K C).isSome = true) (ha : findIn K (.ref C) name = some (some a)) (hg : specialIn K a "__get__" = some (some g)) (ht : takesIn K a = some true) : findObj K C od name = some (.bind g a) := by
  obtain ⟨cd, hc⟩ := Option.isSome_iff_exists.mp hc
  unfold findObj
  rw [hc, Option.bind_some, ha, Option.bind_some]
  simp [hg, ht]
theorem classO {Q : Option Value → Shared → Prop} (T : L2.ExcC K D) (X : K.In s.heap) (I : InstAt s.heap x ox D od) (h : Q (some (.ref D)) { s with toks := s.toks + 1 }) : wpAny (model prog w) A (getAttr? (.ref x) "__class__") Q E s := by
  have hf : findObj K D od "__class__" = some (.bind (.builtin "getset_descriptor.__get__") (.builtin "object.__class__")) := findO (by obtain ⟨cd, hc, _⟩ := any_some T.hd; rw [hc]; rfl) T.ha T.hn T.ht
  obtain ⟨hp, g, d, t, os⟩ := s
  have L0 := I.type (M := model prog w)
  have L1 := looks_findIn (M := model prog w) X T.hg
  have L2 := looks_findIn (M := model prog w) X T.hk
  have L3 := looks_find (M := model prog w) X I hf
  have sub : Looks (model prog w) hp (isInstance (.ref x) (.type "BaseException")) true := L0.andThen (looks_subIn X T.hs)
  have hx2 : (Value.builtin "BaseException.__getattribute__" == Value.builtin "object.__getattribute__") = false := by decide +kernel
  have hx1 : (onTheHeap (Value.ref D) && Value.builtin "BaseException.__getattribute__" == Value.builtin "object.__getattribute__") = false := by rw [hx2]; rfl
  unfold getAttr? getAttrBy? getAttrBy
  refine wpAny_bind (wpAny_mkText (wpAny_bind (wpAny_attempt (wpAny_holding (wpAny_bind (L0.at (wpAny_bind (L1.at ?_))))))))
  show wpAny _ _ (if (onTheHeap (Value.ref D) && Value.builtin "BaseException.__getattribute__" == Value.builtin "object.__getattribute__") = true then _ else _) _ _ _
  rw [hx1, if_neg Bool.false_ne_true]
  unfold getAttrByItsOwn hookBefore
  refine wpAny_bind ?_
  rw [if_pos (show onTheHeap (Value.ref D) = true from rfl)]
  refine L2.at ?_
  refine wpAny_bind (wpAny_attempt (wpAny_holding ?_))
  unfold callGetattribute
  rw [show (false && onTheHeap (Value.builtin "BaseException.__getattribute__")) = false from rfl, if_neg Bool.false_ne_true]
  unfold boundAndCalled
  rw [PySem.F.excAttr_ValueError.ga.bind (.ref x)]
  refine wpAny_bind (wpAny_pure ?_)
  show wpAny _ _ (call (.builtin "BaseException.__getattribute__") [.ref x, .str "__class__" t]) _ _ _
  refine wpAny_call (codeAny_call_builtin PySem.F.excAttr_ValueError.ga.plain PySem.F.entry_bexc_ga ?_)
  refine @check_slot (model prog w) _ _ ⟨hp, g, d, t + 1, os⟩ "BaseException.__getattribute__" "BaseException" "__getattribute__" (.ref x) [.str "__class__" t] [] _ (by decide +kernel) (by decide +kernel) sub (PySem.F.args_bexc_ga (.ref x) (.str "__class__" t)) ?_
  unfold Builtin.«object.__getattribute__»
  refine wpAny_bind (wpAny_of_eq (a := ((Value.ref x : Value), [Value.str "__class__" t])) (by first | rfl | (simp only [slotArgs]; rfl)) ?_)
  refine wpAny_bind (wpAny_pure (wpAny_bind (L0.at (wpAny_bind (L3.at ?_)))))
  show wpAny _ _ (holding [Value.builtin "object.__class__"] (call (.builtin "getset_descriptor.__get__") [.builtin "object.__class__", .ref x, .ref D]) >>= ret) _ _ _
  refine wpAny_bind (wpAny_holding (wpAny_call (class_get (s := ⟨hp, g, d, t + 1, os⟩) (ox := ox) (od := od) X I T.hm ?_)))
  refine wpAny_pure ?_
  show wpAny _ _ (handedOut (.ref D)) _ _ _
  rw [handedOut_of (v := .ref D) rfl]
  first
    | exact wpAny_pure (wpAny_pure h)
    | exact wpAny_pure h
    | exact wpAny_pure (wpAny_bind (wpAny_pure (wpAny_pure h)))
theorem kitO (T : L2.ExcC K D) : KitX K (.ref x) (.ref D) (fun h => InstAt h x ox D od) where
  ty := fun _ _ _ I => I.type
  it := fun _ _ X _ => by
    obtain ⟨cdD, hcD, _⟩ := any_some T.hd
    unfold clsIn at hcD
    split at hcD
    · rename_i c' d' cd' sl' ho
      intro A' Q' E' s' k q
      unfold isType loadHead
      exact wpAny_bind (wpAny_loadPart (k _ _ (X _ _ ho)) (wpAny_pure q))
    · cases hcD
  ne := fun h tp dd its n sl X htp => by
    obtain ⟨cdD, hcD, _⟩ := any_some T.hd
    refine Bool.eq_false_iff.mpr fun q => ?_
    have e : D = tp := Value.ref.inj (beq_iff_eq.mp q)
    subst e
    unfold clsIn at hcD
    split at hcD
    · rename_i c' d' cd' sl' ho
      have z := (X _ _ ho).symm.trans htp
      cases z
    · cases hcD
  ca := fun X I k => classO T X I k
end
end Mn
namespace Mn
open PySem PySem.Spec PyProof.Rows L2
/-- isinstance(e, c), e the exception that the suite holds, with or without fields -/
def rIsO (K : PySem.W.Frag) (D a : Addr) (d : Option Addr) : List V → Hp → VK → Prop := fun xs H Q => ∃ (c : V) (cv : Value) (b : Bool), xs = [.ref a, c] ∧ (∀ u, RelV c u → u = cv) ∧ (match d with | none => True | some dd => ∃ fs, H dd = some (.xd fs)) ∧ PySem.W.kitOne K (.ref D) cv = some b ∧ Q (.bl b) H
theorem call_isO {X : Cx} {a D : Addr} {oe : Obj} {d : Option Addr} {pn : List (Addr × Obj)} (C : ExcC X.K D) (hz : Zc (.ref D) d oe) (hf : ∃ vs, oe.data = .fields vs) : CallR (X.suite a ((a, oe) :: pn)) (.builtin "isinstance") (rIsO X.K D a d) := by
  intro pins s σ H xs us Q I r h
  obtain ⟨c, cv, b, rfl, hcv, hd, e, q⟩ := h
  cases r with
  | cons rx rr =>
    cases rr with
    | cons rt rr =>
      cases rr
      cases rx
      have ec := hcv _ rt
      subst ec
      obtain ⟨hget, _⟩ := I.pin (a, oe) (List.mem_append.mpr (.inl List.mem_cons_self))
      obtain ⟨vs, hv⟩ := hf
      have J : ∃ od, PySem.W.InstAt s.heap a oe D od := by
        cases d with
        | none =>
          refine ⟨none, hget, hz.1, by unfold PySem.W.notCls; rw [hv] <;> rfl, by rw [hz.2]; trivial⟩
        | some dd =>
          obtain ⟨fs, ea⟩ := hd
          have hx : ObjOk X.prog X.w H s.heap dd (.xd fs) := I.hok dd _ ea
          obtain ⟨mA, hns, hr⟩ := hx
          obtain ⟨od, ho, hl⟩ := lookIn_ns hns
          exact ⟨some od, hget, hz.1, by unfold PySem.W.notCls; rw [hv] <;> rfl, by rw [hz.2]; exact ho⟩
      obtain ⟨od, J⟩ := J
      exact PySem.W.kia_one (kitO (ox := oe) (od := od) C) I.kIn J e (fun z => nomatch z) fun tk => ⟨.bl b, H, I.kept (t' := tk) fun _ _ z => z, rfl, q⟩
/-- what an own exception class and another class are to one another -/
def IsK (K : PySem.W.Frag) (mg : Str → Option Value) (y : Str) (c : Value) (b : Bool) : Prop := ∃ D, mg y = some (.ref D) ∧ ExcC K D ∧ PySem.W.kitOne K (.ref D) c = some b
def cIsX (tb : List (Str × Bool)) (a : Addr) (y : Str) (d : Option Addr) (i : Nat) : CEx := fun _ sc hc P => match tb.lookup y with
  | some b => (match look sc i with
    | some (.exn a' d' _ _) => (a' = a ∧ d' = d) ∧ P (.bl b) hc
    | _ => False)
  | none => False
section
variable {X : Cx} {a : Addr} {oe : Obj} {y n z : Str} {cls : Value} {d : Option Addr} {pn : List (Addr × Obj)} {np p1 zp pos : Pos} {i : Nat} {tb : List (Str × Bool)}
theorem isx_go {c : V} {cv : Value} {e2 : Expr} (tx : ∀ y b, tb.lookup y = some b → IsK X.K X.mg y cv b) (hcv : ∀ u, RelV c u → u = cv) (h2 : PE (X.suite a ((a, oe) :: pn)) e2 (fun σ H Q => Q c H)) (hm : X.mg "isinstance" = none) (hy : X.mg y = some cls) (hz : Zc cls d oe) (hv : ∃ vs, oe.data = .fields vs) (hg : Gl X "isinstance" := by rfl)
    (hi : X.N[i]? = some n := by rfl) (hvi : Vis X.env.scope n := by first | exact Or.inl rfl | exact Or.inr (Or.inl rfl) | exact Or.inr (Or.inr rfl)) (hd : (n == ("__debug__" : Str)) = false := by decide) (hcd : (n == ("__classdict__" : Str)) = false := by decide)
    (he : starEach [.Name n np, e2] X.env = (false, eval (.Name n np) X.env) :: starEach [e2] X.env := by rfl) (he2 : starEach [e2] X.env = (false, eval e2 X.env) :: starEach [] X.env := by rfl) (hpl : (backTo pos (starEach [e2] X.env)).any (·.1) = false := by rfl) :
    CE (X.suite a ((a, oe) :: pn)) W0 (.Call (.Name "isinstance" p1) [.Name n np, e2] [] pos) (cIsX tb a y d i) := by
  refine ⟨⟨fun pins s σ H Q I ⟨en, sc, hc, m, E, P, r, k, xo, fin⟩ => ?_⟩⟩
  unfold cIsX at k
  split at k
  · rename_i b hb
    split at k
    · rename_i a' d' ns xs el
      obtain ⟨⟨rfl, rfl⟩, k⟩ := k
      obtain ⟨D, e1, T, e4⟩ := tx y b hb
      rw [hy] at e1
      cases e1
      obtain ⟨v0, e5, q0⟩ := r.slot i _ (look_get el)
      unfold Rep at q0
      obtain ⟨rfl, vs, xf, q0⟩ := q0
      refine (pe_callB (call_isO (pn := pn) T hz hv) hg hm (by decide +kernel) (pa_cons (pe_var (X := X.suite a' ((a', oe) :: pn)) (pos := np) hi hvi hd hcd) (pa_cons h2 pa_nil he2) he) (by decide) (by decide) he hpl).run pins s σ H Q I ?_
      refine ⟨_, e5, c, cv, b, rfl, hcv, ?_, e4, fin _ hc k _ H m (.refl r.toWd) rep_bl⟩
      rcases xf with ⟨rfl, _, _⟩ | ⟨dd, fs, rfl, e3, _, _⟩
      · trivial
      · exact ⟨fs, e3⟩
    · exact k.elim
  · exact k.elim
theorem ce_isK (hzc : ∃ C, X.mg z = some (.ref C)) (tx : ∀ C, X.mg z = some (.ref C) → ∀ y b, tb.lookup y = some b → IsK X.K X.mg y (.ref C) b) (hm : X.mg "isinstance" = none) (hy : X.mg y = some cls) (hz : Zc cls d oe) (hv : ∃ vs, oe.data = .fields vs) (hg : Gl X "isinstance" := by rfl) (hgz : Gl X z := by rfl) (hdz : (z == ("__debug__" : Str)) = false := by decide)
    (hi : X.N[i]? = some n := by rfl) (hvi : Vis X.env.scope n := by first | exact Or.inl rfl | exact Or.inr (Or.inl rfl) | exact Or.inr (Or.inr rfl)) (hd : (n == ("__debug__" : Str)) = false := by decide) (hcd : (n == ("__classdict__" : Str)) = false := by decide)
    (he : starEach [.Name n np, .Name z zp] X.env = (false, eval (.Name n np) X.env) :: starEach [.Name z zp] X.env := by rfl) (he2 : starEach [.Name z zp] X.env = (false, eval (.Name z zp) X.env) :: starEach [] X.env := by rfl) (hpl : (backTo pos (starEach [.Name z zp] X.env)).any (·.1) = false := by rfl) :
    CE (X.suite a ((a, oe) :: pn)) W0 (.Call (.Name "isinstance" p1) [.Name n np, .Name z zp] [] pos) (cIsX tb a y d i) := by
  obtain ⟨C, hC⟩ := hzc
  exact isx_go (c := .ref C) (tx C hC) (fun u r => r) ⟨fun pins s σ H Q I h => ld_glob I hgz hC ⟨.ref C, H, I, rfl, h⟩ hdz⟩ hm hy hz hv hg hi hvi hd hcd he he2 hpl
theorem ce_isT {T : String} (hm2 : X.mg z = none) (tx : ∀ y b, tb.lookup y = some b → IsK X.K X.mg y (.type T) b) (hm : X.mg "isinstance" = none) (hy : X.mg y = some cls) (hz : Zc cls d oe) (hv : ∃ vs, oe.data = .fields vs) (hv2 : bootBuiltins z = some (.type T) := by decide +kernel) (hg : Gl X "isinstance" := by rfl) (hgz : Gl X z := by rfl) (hn2 : z ≠ "__name__" := by decide) (hdz : (z == ("__debug__" : Str)) = false := by decide)
    (hi : X.N[i]? = some n := by rfl) (hvi : Vis X.env.scope n := by first | exact Or.inl rfl | exact Or.inr (Or.inl rfl) | exact Or.inr (Or.inr rfl)) (hd : (n == ("__debug__" : Str)) = false := by decide) (hcd : (n == ("__classdict__" : Str)) = false := by decide)
    (he : starEach [.Name n np, .Name z zp] X.env = (false, eval (.Name n np) X.env) :: starEach [.Name z zp] X.env := by rfl) (he2 : starEach [.Name z zp] X.env = (false, eval (.Name z zp) X.env) :: starEach [] X.env := by rfl) (hpl : (backTo pos (starEach [.Name z zp] X.env)).any (·.1) = false := by rfl) :
    CE (X.suite a ((a, oe) :: pn)) W0 (.Call (.Name "isinstance" p1) [.Name n np, .Name z zp] [] pos) (cIsX tb a y d i) :=
  isx_go (c := .ty T) (cv := .type T) tx (fun u r => r) (pe_bltn (v := .ty T) hgz hm2 hv2 rfl hn2 hdz) hm hy hz hv hg hi hvi hd hcd he he2 hpl
end
theorem e_IsX {tb : List (Str × Bool)} {a : Addr} {y : Str} {d : Option Addr} {i : Nat} {E : XP} {sc : List Sl} {hc : CH} {P : D → CH → Prop} : cIsX tb a y d i E sc hc P = (match tb.lookup y with
  | some b => (match look sc i with
    | some (.exn a' d' _ _) => (a' = a ∧ d' = d) ∧ P (.bl b) hc
    | _ => False)
  | none => False) := rfl
theorem isk_nil {K : PySem.W.Frag} {mg : Str → Option Value} {c : Value} : ∀ (y : Str) (b : Bool), ([] : List (Str × Bool)).lookup y = some b → IsK K mg y c b := fun y b e => by cases e
theorem isk_cons {K : PySem.W.Frag} {mg : Str → Option Value} {y : Str} {c : Value} {b : Bool} {tb : List (Str × Bool)} (h : IsK K mg y c b) (r : ∀ (y : Str) (b : Bool), tb.lookup y = some b → IsK K mg y c b) :
    ∀ (y' : Str) (b' : Bool), ((y, b) :: tb).lookup y' = some b' → IsK K mg y' c b' := fun y' b' e => by
  rw [List.lookup_cons] at e
  cases q : (y' == y) with
  | true =>
    rw [q] at e
    cases e
    rw [beq_iff_eq.mp q]
    exact h
  | false =>
    rw [q] at e
    exact r y' b' e
/-! ### the hook, with such facts -/
inductive IsF where
  | own (y z : Str) (b : Bool)
  | blt (y : Str) (T : String) (b : Bool)
def IsF.y : IsF → Str
  | .own y _ _ => y
  | .blt y _ _ => y
def IsF.c (K : PySem.W.Frag) : IsF → Value
  | .own _ z _ => .ref (He.ga K z)
  | .blt _ T _ => .type T
def IsF.b : IsF → Bool
  | .own _ _ b => b
  | .blt _ _ b => b
def excB (K : PySem.W.Frag) (D : Addr) : Bool := xfB K D && (decide (PySem.W.findIn K (.ref D) "__class__" = some (some (.builtin "object.__class__"))) && (decide (PySem.W.specialIn K (.builtin "object.__class__") "__get__" = some (some (.builtin "getset_descriptor.__get__"))) &&
  (decide (PySem.W.takesIn K (.builtin "object.__class__") = some true) && decide (PySem.W.mroIn K D (.type "object") = some true))))
theorem excB_ok {K : PySem.W.Frag} {D : Addr} (h : excB K D = true) : ExcC K D := by
  unfold excB at h
  simp only [Bool.and_eq_true] at h
  obtain ⟨h1, h2, h3, h4, h5⟩ := h
  have x := xfB_ok h1
  exact ⟨x.ga, x.gg, x.exC, x.hdC, of_decide_eq_true h2, of_decide_eq_true h3, of_decide_eq_true h4, of_decide_eq_true h5⟩
def isB (K : PySem.W.Frag) (f : IsF) : Bool := excB K (He.ga K f.y) && decide (PySem.W.kitOne K (.ref (He.ga K f.y)) (f.c K) = some f.b)
theorem isK_of {K : PySem.W.Frag} {mg : Str → Option Value} {f : IsF} (h : isB K f = true) (hm : mg f.y = some (.ref (He.ga K f.y))) : IsK K mg f.y (f.c K) f.b := by
  unfold isB at h
  rw [Bool.and_eq_true] at h
  exact ⟨_, hm, excB_ok h.1, of_decide_eq_true h.2⟩
/-- by the other class's name -/
def IsN (K : PySem.W.Frag) (mg : Str → Option Value) (y z : Str) (b : Bool) : Prop := ∃ C, mg z = some (.ref C) ∧ IsK K mg y (.ref C) b
theorem IsN.at {K : PySem.W.Frag} {mg : Str → Option Value} {y z : Str} {b : Bool} {C : Addr} (h : IsN K mg y z b) (hz : mg z = some (.ref C)) : IsK K mg y (.ref C) b := by
  obtain ⟨D, e, k⟩ := h
  rw [hz] at e
  cases e
  exact k
theorem isN_of {K : PySem.W.Frag} {mg : Str → Option Value} {y z : Str} {b : Bool} (h : isB K (.own y z b) = true) (hm : mg y = some (.ref (He.ga K y))) (hz : mg z = some (.ref (He.ga K z))) : IsN K mg y z b := ⟨_, hz, isK_of (f := .own y z b) h hm⟩
def obsZG (n : Nat) (fa : List He.Fa) (fn : List He.DefD) (tc : TupC) (lm : List Str) (file : Str) (ini : List IniD) (fv : List Str) (isl : List IsF) (g : Addr → Option Obj) : ((((He.AlD × Bool) × Bool) × (Bool × List IniW)) × Bool) × Bool :=
  (obsYG n fa fn tc lm file ini fv g, isl.all (isB (He.frT g (He.asD g n ++ [sysModules, cStatics]))))
def hookZ (n : Nat) (fa : List He.Fa) (fn : List He.DefD) (tc : TupC) (lm : List Str) (file : Str) (ini : List IniD) (fv : List Str) (isl : List IsF) : PySem.W.Hook where
  α := ((((He.AlD × Bool) × Bool) × (Bool × List IniW)) × Bool) × Bool
  obs := fun s => obsZG n fa fn tc lm file ini fv isl s.heap.get?
  val := fun _ => (((((He.valD fn, true), true), (true, ini.map IniD.val)), true), true)
  says := fun _ h => ∃ K : PySem.W.Frag, K.In h ∧ SaysT fa fn tc K h ∧ (∀ x ∈ lm, lamN K x = true) ∧ (∀ d ∈ ini, ownB K file d = true ∧ iniW K d.x = d.val) ∧ FvOk K fv ∧ ∀ f ∈ isl, isB K f = true
  of := fun _ s e0 => by
    have e : obsYG n fa fn tc lm file ini fv s.heap.get? = ((((He.valD fn, true), true), (true, ini.map IniD.val)), true) := congrArg (fun z : ((((He.AlD × Bool) × Bool) × (Bool × List IniW)) × Bool) × Bool => z.1) e0
    have ez : isl.all (isB (He.frT s.heap.get? (He.asD s.heap.get? n ++ [sysModules, cStatics]))) = true := congrArg (fun z : ((((He.AlD × Bool) × Bool) × (Bool × List IniW)) × Bool) × Bool => z.2) e0
    have ex : obsXG n fa fn tc lm file ini s.heap.get? = (((He.valD fn, true), true), (true, ini.map IniD.val)) := congrArg (fun z : (((He.AlD × Bool) × Bool) × (Bool × List IniW)) × Bool => z.1) e
    have ey : fv.all (fvB (He.frT s.heap.get? (He.asD s.heap.get? n ++ [sysModules, cStatics]))) = true := congrArg (fun z : (((He.AlD × Bool) × Bool) × (Bool × List IniW)) × Bool => z.2) e
    have e0 : obsLG n fa fn tc lm s.heap.get? = ((He.valD fn, true), true) := congrArg (fun z : ((He.AlD × Bool) × Bool) × (Bool × List IniW) => z.1) ex
    have e1 : obsTG n fa fn tc s.heap.get? = (He.valD fn, true) := congrArg (fun z : (He.AlD × Bool) × Bool => z.1) e0
    have e2 : lm.all (lamN (He.frT s.heap.get? (He.asD s.heap.get? n ++ [sysModules, cStatics]))) = true := congrArg (fun z : (He.AlD × Bool) × Bool => z.2) e0
    have e3 : ini.all (ownB (He.frT s.heap.get? (He.asD s.heap.get? n ++ [sysModules, cStatics])) file) = true := congrArg (fun z : ((He.AlD × Bool) × Bool) × (Bool × List IniW) => z.2.1) ex
    have e4 : (ini.map fun d => iniW (He.frT s.heap.get? (He.asD s.heap.get? n ++ [sysModules, cStatics])) d.x) = ini.map IniD.val := congrArg (fun z : ((He.AlD × Bool) × Bool) × (Bool × List IniW) => z.2.2) ex
    exact ⟨He.frT s.heap.get? (He.asD s.heap.get? n ++ [sysModules, cStatics]), He.frT_in, saysT_of e1, fun x hx => List.all_eq_true.mp e2 x hx, fun d hd => ⟨List.all_eq_true.mp e3 d hd, map_val e4 d hd⟩, fvB_ok ey, fun f hf => List.all_eq_true.mp ez f hf⟩
  keeps := fun _ _ _ ⟨K, hK, ⟨c, d, t⟩, l⟩ k => ⟨K, PySem.W.Frag.In.keeps hK k, ⟨c, d, fun b hb => ⟨k _ _ (t b hb).1, (t b hb).2⟩⟩, l⟩
theorem obsZG_eq {n : Nat} {fa : List He.Fa} {fn : List He.DefD} {tc : TupC} {lm : List Str} {file : Str} {ini : List IniD} {fv : List Str} {isl : List IsF} {g : Addr → Option Obj} {s : Shared} (h : ∀ a, g a = s.heap.get? a) : obsZG n fa fn tc lm file ini fv isl g = (hookZ n fa fn tc lm file ini fv isl).obs s := by
  have e : g = s.heap.get? := funext h
  subst e
  rfl
end Mn

namespace Lk41
open PySem L2 Mn

def topS (i : Nat) : Stmt := PySem.Challenge.pw_numbertexts_k41_whole_guarded_runs.main.body.getD i (.Pass ⟨0, 0, 0, 0⟩)

abbrev s__law_deck : Stmt := topS 35
theorem sc__law_deck : FnScope ["_law_script", "_law_cell"] ["_law_script"] (defScope s__law_deck) := ⟨rfl, rfl, rfl, by decide +kernel, rfl, by decide +kernel, by decide +kernel⟩

abbrev s__law_draw : Stmt := topS 36
theorem sc__law_draw : FnScope ["_law_deck_here", "_law_many", "_law_cell", "_law_place"] ["_law_deck_here", "_law_many"] (defScope s__law_draw) := ⟨rfl, rfl, rfl, by decide +kernel, rfl, by decide +kernel, by decide +kernel⟩

abbrev s__law_form : Stmt := topS 45
theorem sc__law_form : FnScope ["_law_deck_here", "_law_low"] ["_law_deck_here"] (defScope s__law_form) := ⟨rfl, rfl, rfl, by decide +kernel, rfl, by decide +kernel, by decide +kernel⟩

abbrev s__law_pick : Stmt := topS 37
theorem sc__law_pick : FnScope ["_law_deck_here", "_law_some"] ["_law_deck_here", "_law_some"] (defScope s__law_pick) := ⟨rfl, rfl, rfl, by decide +kernel, rfl, by decide +kernel, by decide +kernel⟩

abbrev s__law_power : Stmt := topS 46
theorem sc__law_power : FnScope ["_law_deck_here", "_law_form_here", "_law_p", "_law_low", "_law_high"] ["_law_deck_here", "_law_form_here"] (defScope s__law_power) := ⟨rfl, rfl, rfl, by decide +kernel, rfl, by decide +kernel, by decide +kernel⟩

abbrev s__law_ten : Stmt := topS 39
theorem sc__law_ten : FnScope ["_law_many", "_law_found", "_law_k"] ["_law_many"] (defScope s__law_ten) := ⟨rfl, rfl, rfl, by decide +kernel, rfl, by decide +kernel, by decide +kernel⟩

abbrev s__law_cut : Stmt := topS 40
theorem sc__law_cut : FnScope ["_law_power_here", "_law_bits", "_law_num", "_law_den", "_law_shift"] ["_law_power_here", "_law_bits"] (defScope s__law_cut) := ⟨rfl, rfl, rfl, by decide +kernel, rfl, by decide +kernel, by decide +kernel⟩

abbrev s__law_row : Stmt := topS 47
theorem sc__law_row : FnScope ["_law_deck_here", "_law_power_here", "_law_bits", "_law_factor", "_law_shift", "_law_height", "_law_way"] ["_law_deck_here", "_law_power_here", "_law_bits"] (defScope s__law_row) := ⟨rfl, rfl, rfl, by decide +kernel, rfl, by decide +kernel, by decide +kernel⟩

abbrev s_ten : Stmt := topS 1
theorem sc_ten : FnScope ["power", "found", "base", "left"] ["power"] (defScope s_ten) := ⟨rfl, rfl, rfl, by decide +kernel, rfl, by decide +kernel, by decide +kernel⟩

abbrev s_power_fraction : Stmt := topS 3
theorem sc_power_fraction : FnScope ["power"] ["power"] (defScope s_power_fraction) := ⟨rfl, rfl, rfl, by decide +kernel, rfl, by decide +kernel, by decide +kernel⟩

abbrev s_shifted : Stmt := topS 4
theorem sc_shifted : FnScope ["num", "den", "shift"] ["num", "den", "shift"] (defScope s_shifted) := ⟨rfl, rfl, rfl, by decide +kernel, rfl, by decide +kernel, by decide +kernel⟩

abbrev s_run_slope : Stmt := topS 15
theorem sc_run_slope : FnScope ["row"] ["row"] (defScope s_run_slope) := ⟨rfl, rfl, rfl, by decide +kernel, rfl, by decide +kernel, by decide +kernel⟩

abbrev s_is_above : Stmt := topS 17
theorem sc_is_above : FnScope ["one", "other"] ["one", "other"] (defScope s_is_above) := ⟨rfl, rfl, rfl, by decide +kernel, rfl, by decide +kernel, by decide +kernel⟩

abbrev s_top_slope : Stmt := topS 16
theorem sc_top_slope : FnScope ["row"] ["row"] (defScope s_top_slope) := ⟨rfl, rfl, rfl, by decide +kernel, rfl, by decide +kernel, by decide +kernel⟩

abbrev s_is_sound : Stmt := topS 30
theorem sc_is_sound : FnScope ["row", "value"] ["row"] (defScope s_is_sound) := ⟨rfl, rfl, rfl, by decide +kernel, rfl, by decide +kernel, by decide +kernel⟩

abbrev s__law_sound : Stmt := topS 48
theorem sc__law_sound : FnScope ["_law_row_here", "_law_power_here", "_law_factor", "_law_shift", "_law_height", "_law_num", "_law_den"] ["_law_row_here"] (defScope s__law_sound) := ⟨rfl, rfl, rfl, by decide +kernel, rfl, by decide +kernel, by decide +kernel⟩

abbrev s__law_ways : Stmt := topS 49
theorem sc__law_ways : FnScope [] [] (defScope s__law_ways) := ⟨rfl, rfl, rfl, by decide +kernel, rfl, by decide +kernel, by decide +kernel⟩

abbrev s_check_sound : Stmt := topS 31
theorem sc_check_sound : FnScope ["row"] ["row"] (defScope s_check_sound) := ⟨rfl, rfl, rfl, by decide +kernel, rfl, by decide +kernel, by decide +kernel⟩

abbrev s_floor_log : Stmt := topS 5
theorem sc_floor_log : FnScope ["num", "den", "t", "low", "high"] ["num", "den"] (defScope s_floor_log) := ⟨rfl, rfl, rfl, by decide +kernel, rfl, by decide +kernel, by decide +kernel⟩

abbrev s_exponent_of : Stmt := topS 18
theorem sc_exponent_of : FnScope ["form", "num", "den", "p", "low", "high"] ["form", "num", "den"] (defScope s_exponent_of) := ⟨rfl, rfl, rfl, by decide +kernel, rfl, by decide +kernel, by decide +kernel⟩

abbrev s_position_line : Stmt := topS 19
theorem sc_position_line : FnScope ["form", "slope", "exponent", "p", "low", "high", "num", "den", "below"] ["form", "slope", "exponent"] (defScope s_position_line) := ⟨rfl, rfl, rfl, by decide +kernel, rfl, by decide +kernel, by decide +kernel⟩

abbrev s_below_half_stair : Stmt := topS 22
theorem sc_below_half_stair : FnScope ["way", "line"] ["way", "line"] (defScope s_below_half_stair) := ⟨rfl, rfl, rfl, by decide +kernel, rfl, by decide +kernel, by decide +kernel⟩

abbrev s_half_stair : Stmt := topS 21
theorem sc_half_stair : FnScope ["way", "line"] ["way", "line"] (defScope s_half_stair) := ⟨rfl, rfl, rfl, by decide +kernel, rfl, by decide +kernel, by decide +kernel⟩

abbrev s_read_stair : Stmt := topS 20
theorem sc_read_stair : FnScope ["way", "line", "a", "b", "c"] ["way", "line"] (defScope s_read_stair) := ⟨rfl, rfl, rfl, by decide +kernel, rfl, by decide +kernel, by decide +kernel⟩

abbrev s_half_of : Stmt := topS 10
theorem sc_half_of : FnScope ["form"] ["form"] (defScope s_half_of) := ⟨rfl, rfl, rfl, by decide +kernel, rfl, by decide +kernel, by decide +kernel⟩

abbrev s_count_of : Stmt := topS 11
theorem sc_count_of : FnScope ["form", "precision", "low", "high"] ["form"] (defScope s_count_of) := ⟨rfl, rfl, rfl, by decide +kernel, rfl, by decide +kernel, by decide +kernel⟩

abbrev s_beyond_code : Stmt := topS 23
theorem sc_beyond_code : FnScope ["form", "way", "many"] ["form", "way"] (defScope s_beyond_code) := ⟨rfl, rfl, rfl, by decide +kernel, rfl, by decide +kernel, by decide +kernel⟩

abbrev s_stair_on : Stmt := topS 24
theorem sc_stair_on : FnScope ["kind", "form", "way", "slope", "exponent", "code"] ["kind", "form", "way", "slope", "exponent"] (defScope s_stair_on) := ⟨rfl, rfl, rfl, by decide +kernel, rfl, by decide +kernel, by decide +kernel⟩

abbrev s_value_at : Stmt := topS 26
theorem sc_value_at : FnScope ["line", "x", "a", "b", "c"] ["line", "x"] (defScope s_value_at) := ⟨rfl, rfl, rfl, by decide +kernel, rfl, by decide +kernel, by decide +kernel⟩

abbrev s_stair_at : Stmt := topS 28
theorem sc_stair_at : FnScope ["stair", "x", "line"] ["stair", "x"] (defScope s_stair_at) := ⟨rfl, rfl, rfl, by decide +kernel, rfl, by decide +kernel, by decide +kernel⟩

abbrev s_told_by : Stmt := topS 32
theorem sc_told_by : FnScope ["kind", "form", "way", "slope", "number", "exponent"] ["kind", "form", "way", "slope", "number"] (defScope s_told_by) := ⟨rfl, rfl, rfl, by decide +kernel, rfl, by decide +kernel, by decide +kernel⟩

abbrev s_guarded_read : Stmt := topS 33
theorem sc_guarded_read : FnScope ["form", "way", "row", "number", "found"] ["form", "way", "row", "number"] (defScope s_guarded_read) := ⟨rfl, rfl, rfl, by decide +kernel, rfl, by decide +kernel, by decide +kernel⟩

abbrev s__law_told_run : Stmt := topS 50
theorem sc__law_told_run : FnScope ["_law_form_here", "_law_way", "_law_row_here", "_law_number", "_law_found", "error"] ["_law_form_here", "_law_way", "_law_row_here", "_law_number"] (defScope s__law_told_run) := ⟨rfl, rfl, rfl, by decide +kernel, rfl, by decide +kernel, by decide +kernel⟩

abbrev s__law_slope : Stmt := topS 41
theorem sc__law_slope : FnScope ["_law_form_here", "_law_power_here", "_law_factor", "_law_shift", "_law_num", "_law_den", "_law_more"] ["_law_form_here", "_law_power_here", "_law_factor", "_law_shift"] (defScope s__law_slope) := ⟨rfl, rfl, rfl, by decide +kernel, rfl, by decide +kernel, by decide +kernel⟩

abbrev s__law_values : Stmt := topS 42
theorem sc__law_values : FnScope ["_law_form_here", "_law_p", "_law_low", "_law_high", "_law_found", "_law_j", "_law_m"] ["_law_form_here"] (defScope s__law_values) := ⟨rfl, rfl, rfl, by decide +kernel, rfl, by decide +kernel, by decide +kernel⟩

abbrev s__law_told : Stmt := topS 43
theorem sc__law_told : FnScope ["_law_way", "_law_code", "_law_ends", "_law_x", "_law_den", "_law_side", "_law_twice"] ["_law_way", "_law_code", "_law_ends", "_law_x", "_law_den", "_law_side"] (defScope s__law_told) := ⟨rfl, rfl, rfl, by decide +kernel, rfl, by decide +kernel, by decide +kernel⟩

abbrev s__law_codes : Stmt := topS 44
theorem sc__law_codes : FnScope ["_law_form_here", "_law_way", "_law_slope_here", "_law_last", "_law_side", "_law_values_here", "_law_found", "_law_code", "_law_num", "_law_den", "_law_x", "_law_at"] ["_law_form_here", "_law_way", "_law_slope_here", "_law_last", "_law_side"] (defScope s__law_codes) := ⟨rfl, rfl, rfl, by decide +kernel, rfl, by decide +kernel, by decide +kernel⟩

abbrev s__law_whole : Stmt := topS 38
theorem sc__law_whole : FnScope ["_law_thing"] ["_law_thing"] (defScope s__law_whole) := ⟨rfl, rfl, rfl, by decide +kernel, rfl, by decide +kernel, by decide +kernel⟩

abbrev s__law_right : Stmt := topS 51
theorem sc__law_right : FnScope ["_law_form_here", "_law_way", "_law_row_here", "_law_found", "_law_ends", "_law_lower", "_law_upper", "_law_true", "_law_k", "_law_number", "_law_slope_here"] ["_law_form_here", "_law_way", "_law_row_here"] (defScope s__law_right) := ⟨rfl, rfl, rfl, by decide +kernel, rfl, by decide +kernel, by decide +kernel⟩

abbrev s_law : Stmt := topS 52
theorem sc_law : FnScope ["_law_script", "_law_deck_here", "_law_turn", "_law_form_here", "_law_row_here", "_law_way"] ["_law_script"] (defScope s_law) := ⟨rfl, rfl, rfl, by decide +kernel, rfl, by decide +kernel, by decide +kernel⟩

abbrev fvL : List Str := ["below_half_stair", "half_stair", "read_stair"]

abbrev mf : Str := PySem.Challenge.pw_numbertexts_k41_whole_guarded_runs.main.file

abbrev ini_NotSound : IniD := ⟨"NotSound", true, "power", "power", clsInit (topS 8)⟩
theorem t_NotSound : IniT ini_NotSound := ⟨⟨_, _, _, _, _, _, _, _, _, _, by decide +kernel, rfl⟩, fun _ _ _ _ _ _ _ _ _ _ => rfl, ⟨_, rfl, rfl⟩, ⟨by decide, by decide⟩, rfl, rfl, rfl, rfl, rfl, rfl, rfl, by decide +kernel⟩

structure Txt (K : PySem.W.Frag) (mg : Str → Option Value) : Prop where
  d__law_deck : DefAt K mg "_law_deck" s__law_deck
  d__law_draw : DefAt K mg "_law_draw" s__law_draw
  d__law_form : DefAt K mg "_law_form" s__law_form
  d__law_pick : DefAt K mg "_law_pick" s__law_pick
  d__law_power : DefAt K mg "_law_power" s__law_power
  d__law_ten : DefAt K mg "_law_ten" s__law_ten
  d__law_cut : DefAt K mg "_law_cut" s__law_cut
  d__law_row : DefAt K mg "_law_row" s__law_row
  d_ten : DefAt K mg "ten" s_ten
  d_power_fraction : DefAt K mg "power_fraction" s_power_fraction
  d_shifted : DefAt K mg "shifted" s_shifted
  d_run_slope : DefAt K mg "run_slope" s_run_slope
  d_is_above : DefAt K mg "is_above" s_is_above
  d_top_slope : DefAt K mg "top_slope" s_top_slope
  d_is_sound : DefAt K mg "is_sound" s_is_sound
  d__law_sound : DefAt K mg "_law_sound" s__law_sound
  d__law_ways : DefAt K mg "_law_ways" s__law_ways
  d_check_sound : DefAt K mg "check_sound" s_check_sound
  d_floor_log : DefAt K mg "floor_log" s_floor_log
  d_exponent_of : DefAt K mg "exponent_of" s_exponent_of
  d_position_line : DefAt K mg "position_line" s_position_line
  d_below_half_stair : DefAt K mg "below_half_stair" s_below_half_stair
  d_half_stair : DefAt K mg "half_stair" s_half_stair
  d_read_stair : DefAt K mg "read_stair" s_read_stair
  d_half_of : DefAt K mg "half_of" s_half_of
  d_count_of : DefAt K mg "count_of" s_count_of
  d_beyond_code : DefAt K mg "beyond_code" s_beyond_code
  d_stair_on : DefAt K mg "stair_on" s_stair_on
  d_value_at : DefAt K mg "value_at" s_value_at
  d_stair_at : DefAt K mg "stair_at" s_stair_at
  d_told_by : DefAt K mg "told_by" s_told_by
  d_guarded_read : DefAt K mg "guarded_read" s_guarded_read
  d__law_told_run : DefAt K mg "_law_told_run" s__law_told_run
  d__law_slope : DefAt K mg "_law_slope" s__law_slope
  d__law_values : DefAt K mg "_law_values" s__law_values
  d__law_told : DefAt K mg "_law_told" s__law_told
  d__law_codes : DefAt K mg "_law_codes" s__law_codes
  d__law_whole : DefAt K mg "_law_whole" s__law_whole
  d__law_right : DefAt K mg "_law_right" s__law_right
  d_law : DefAt K mg "law" s_law
  tnd : (tabA K).Nodup
  n_ValueError : mg "ValueError" = none
  n_abs : mg "abs" = none
  n_bool : mg "bool" = none
  n_int : mg "int" = none
  n_isinstance : mg "isinstance" = none
  n_len : mg "len" = none
  n_list : mg "list" = none
  n_max : mg "max" = none
  n_min : mg "min" = none
  n_range : mg "range" = none
  n_sum : mg "sum" = none
  n_super : mg "super" = none
  k_ODD : GlobC K mg "ODD" (.str "odd")
  k_ZERO : GlobC K mg "ZERO" (.str "zero")
  lim : statK K = true
  x_NotSound : OwnC K mg "NotSound" "power" "power" mf
  e_NotSound_NumberError : ExmC K mg "NotSound" "NumberError" true
  g_NotSound : ∃ C, mg "NotSound" = some (.ref C)
  g_NumberError : ∃ C, mg "NumberError" = some (.ref C)
  j_NotSound_NotSound : IsN K mg "NotSound" "NotSound" true
  j_NotSound_ValueError : IsK K mg "NotSound" (.type "ValueError") true
  fv : FvOk K fvL
  v_below_half_stair : mg "below_half_stair" = some (.ref (He.ga K "below_half_stair"))
  v_half_stair : mg "half_stair" = some (.ref (He.ga K "half_stair"))
  v_read_stair : mg "read_stair" = some (.ref (He.ga K "read_stair"))

variable {P : Program} {w : World} {K : PySem.W.Frag} {mg : Str → Option Value} {base : Heap}

local macro_rules | `(tactic| walk_at "n") => `(tactic| try simp -implicitDefEqProofs only [e_V, e_C, e_FnV, o_inF, e_Raise, e_Xf, e_Ch, e_AndV, e_OrV, e_NotV, e_O, e_Op, e_Un, e_Fn, e_Call, e_Nil, e_Cons, e_Tup, e_Lst, e_NoP, e_SoP, e_Sl, e_T, e_And, e_Or, e_Not, e_If, e_gN, e_Asg, e_Ret, e_RetN, e_Next, e_IfS, e_For, e_It, e_R1, e_R2, e_Drop, e_Par, e_Par3, e_App, e_SetO, e_Give, look_0, look_s, lookO_0, lookO_s, List.set_cons_zero, List.set_cons_succ, startC, List.map_cons, List.map_nil, List.cons_append, List.nil_append, List.length_cons, List.length_nil, List.replicate_zero, List.replicate_succ, List.append_nil, Nat.reduceAdd, Nat.reduceSub, if_true, Bool.false_eq_true, if_false, Bool.not_true, Bool.not_false, decide_true, decide_false, o_addI, o_addS, o_addL, o_addT, o_addR, o_addR', o_sub, o_mul, o_mulL, o_fdiv, o_mod, o_pow, o_shl, o_shr, o_and, o_or, o_neg, o_eqI, o_eqS, o_neI, o_neS, o_lt, o_le, o_gt, o_ge, o_ixL, o_ixT, o_ixR, o_abs, o_int, o_max, o_min, o_lenL, o_lenT, o_lenF, o_lenR, o_slL, o_slT, o_slF, at_0, at_1, at_2, at_3, at_4, o_rev, o_tupF, o_tupF2, o_lstF, o_lstF2, o_repr, e_gNil, o_intB, o_str, o_mulT, o_reprR, o_tupR, e_LstM, o_slR, e_gSubO, o_revBL, o_revBT, o_isN5, o_isN6, o_isN7, o_notN5, o_notN6, o_notN7, o_lenS, o_strS, o_isB, o_notB, o_isi1, o_isi2, o_isi3, o_isi4, o_isi5, o_isi6, o_isi7, o_isi8, ty_int_N, ty_int_B, ty_int_I, ty_int_S, ty_int_T, ty_int_L, ty_int_D, ty_bool_N, ty_bool_B, ty_bool_I, ty_bool_S, ty_bool_T, ty_bool_L, ty_bool_D, ty_str_N, ty_str_B, ty_str_I, ty_str_S, ty_str_T, ty_str_L, ty_str_D, ty_tuple_N, ty_tuple_B, ty_tuple_I, ty_tuple_S, ty_tuple_T, ty_tuple_L, ty_tuple_D, ty_list_N, ty_list_B, ty_list_I, ty_list_S, ty_list_T, ty_list_L, ty_list_D, ty_dict_N, ty_dict_B, ty_dict_I, ty_dict_S, ty_dict_T, ty_dict_L, ty_dict_D, o_catL, e_SetF, e_gCons, e_gUnT, e_gUnL, e_gTup, true_and, e_ParO, e_Star, wipe_0, wipe_s, o_bits, o_divmod, o_inL, o_inT, o_ninL, o_ninT, o_isN1, o_isN2, o_isN3, o_isN4, o_notN1, o_notN2, o_notN3, o_notN4, e_Match, e_arm0, e_arm1, e_arm2, e_Zip, o_zip, e_Ext, e_ParO2, e_ParN, e_R3P, e_IsX, e_LRg1, e_LRg2, e_Rs, e_R3, e_Enum, o_enL, o_all1, e_ItS, e_EnumS, o_enS, e_Jn, e_IxS, o_iT1, o_iT2, o_iT3, o_iT4, o_mT, o_xS, o_xT, o_xL, o_enT, e_SrtS, e_LamC, e_CallD, e_CallK, e_CallV])
local macro_rules | `(tactic| walk_at "x") => `(tactic| try simp -implicitDefEqProofs only [e_V, e_C, e_FnV, o_inF, e_Raise, e_Xf, e_Ch, e_AndV, e_OrV, e_NotV, e_O, e_Op, e_Un, e_Fn, e_Call, e_Nil, e_Cons, e_Tup, e_Lst, e_NoP, e_SoP, e_Sl, e_T, e_And, e_Or, e_Not, e_If, e_gN, e_Asg, e_Ret, e_RetN, e_Next, e_IfS, e_For, e_It, e_R1, e_R2, e_Drop, e_Par, e_Par3, e_App, e_SetO, e_Give, look_0, look_s, lookO_0, lookO_s, List.set_cons_zero, List.set_cons_succ, startC, List.map_cons, List.map_nil, List.cons_append, List.nil_append, List.length_cons, List.length_nil, List.replicate_zero, List.replicate_succ, List.append_nil, Nat.reduceAdd, Nat.reduceSub, if_true, Bool.false_eq_true, if_false, Bool.not_true, Bool.not_false, decide_true, decide_false, o_addI, o_addS, o_addL, o_addT, o_addR, o_addR', o_sub, o_mul, o_mulL, o_fdiv, o_mod, o_pow, o_shl, o_shr, o_and, o_or, o_neg, o_eqI, o_eqS, o_neI, o_neS, o_lt, o_le, o_gt, o_ge, o_ixL, o_ixT, o_ixR, o_abs, o_int, o_max, o_min, o_lenL, o_lenT, o_lenF, o_lenR, o_slL, o_slT, o_slF, at_0, at_1, at_2, at_3, at_4, o_rev, o_tupF, o_tupF2, o_lstF, o_lstF2, o_repr, e_gNil, o_intB, o_str, o_mulT, o_reprR, o_tupR, e_LstM, o_slR, e_gSubO, o_revBL, o_revBT, o_isN5, o_isN6, o_isN7, o_notN5, o_notN6, o_notN7, o_lenS, o_strS, o_isB, o_notB, o_isi1, o_isi2, o_isi3, o_isi4, o_isi5, o_isi6, o_isi7, o_isi8, ty_int_N, ty_int_B, ty_int_I, ty_int_S, ty_int_T, ty_int_L, ty_int_D, ty_bool_N, ty_bool_B, ty_bool_I, ty_bool_S, ty_bool_T, ty_bool_L, ty_bool_D, ty_str_N, ty_str_B, ty_str_I, ty_str_S, ty_str_T, ty_str_L, ty_str_D, ty_tuple_N, ty_tuple_B, ty_tuple_I, ty_tuple_S, ty_tuple_T, ty_tuple_L, ty_tuple_D, ty_list_N, ty_list_B, ty_list_I, ty_list_S, ty_list_T, ty_list_L, ty_list_D, ty_dict_N, ty_dict_B, ty_dict_I, ty_dict_S, ty_dict_T, ty_dict_L, ty_dict_D, o_catL, e_SetF, e_gCons, e_gUnT, e_gUnL, e_gTup, true_and, e_ParO, e_Star, wipe_0, wipe_s, o_bits, o_divmod, o_inL, o_inT, o_ninL, o_ninT, o_isN1, o_isN2, o_isN3, o_isN4, o_notN1, o_notN2, o_notN3, o_notN4, e_Match, e_arm0, e_arm1, e_arm2, e_Zip, o_zip, e_Ext, e_ParO2, e_ParN, e_R3P, e_IsX, e_LRg1, e_LRg2, e_Rs, e_R3, e_Enum, o_enL, o_all1, e_ItS, e_EnumS, o_enS, e_Jn, e_IxS, o_iT1, o_iT2, o_iT3, o_iT4, o_mT, o_xS, o_xT, o_xL, o_enT, e_SrtS, e_LamC, e_CallD, e_CallK, e_CallV])
local macro_rules | `(tactic| walk_at "b") => `(tactic| simp -implicitDefEqProofs only [e_gN, e_gUnT, e_gUnL, e_gTup, e_gCons, e_gNil, List.set_cons_zero, List.set_cons_succ, List.length_cons, List.length_nil, Nat.reduceAdd, true_and])
local macro_rules | `(tactic| walk_at "l") => `(tactic| first | exact Nat.zero_lt_succ _ | exact Nat.le_of_ble_eq_true rfl | simp)

abbrev N__law_deck : List Str := ["_law_script", "_law_cell"]
def c__law_deck : CSx :=
  (cRet (cLstM (cCons (cLcM (cIt (cSl (cV 0) cNoP (cSoP (cC (.int 63))))) (gN 1) cYes (cFn absD (cCons (cV 1) cNil)) [1]) (cCons (cC (.int 0)) cNil))))

/-! ### the deck -/
/-- r is the deck, q its cells, at most N draws so far; all else is as in b -/
def Dk (b : CH) (r q : Addr) (N : Nat) (hc : CH) : Prop := r ≠ q ∧ (∃ (cells : List Int) (n : Int), hc r = some [.ref q, .int n] ∧ hc q = some (cells.map D.int) ∧ (∀ c ∈ cells, 0 ≤ c) ∧ cells.length ≤ 63 ∧ 0 ≤ n ∧ n ≤ N) ∧ ∀ a, a ≠ r → a ≠ q → hc a = b a
theorem Dk.mono {b : CH} {r q : Addr} {N M : Nat} {hc : CH} (h : Dk b r q N hc) (l : N ≤ M) : Dk b r q M hc := by
  obtain ⟨h1, ⟨cells, n, h2, h3, h4, h5, h6, h7⟩, h8⟩ := h
  exact ⟨h1, ⟨cells, n, h2, h3, h4, h5, h6, by omega⟩, h8⟩
theorem le18 {x : Int} (h : x ≤ 1000000000000000000) : x ≤ 10 ^ 18 := by
  have e : (10 : Int) ^ 18 = 1000000000000000000 := by decide
  omega


def sp__law_deck : Spc := fun ds hc Q _ => ∃ ns : List Int, ds = [.frz (ns.map D.int)] ∧ ns.length ≤ 63 ∧ ∀ r q hc', Dk hc r q 0 hc' → Q (.ref r) hc'
theorem len__law_deck {ds : List D} {hc : CH} {Q E} (h : sp__law_deck ds hc Q E) : ds.length = 1 := by
  obtain ⟨ns, rfl, _⟩ := h
  rfl
theorem cut63 {α : Type} (xs : List α) (h : xs.length ≤ 63) : cutX xs none (some 63) = xs := by
  unfold cutX
  rw [show HT.sIx xs.length 0 none = 0 from rfl, show HT.sIx xs.length xs.length (some 63) = min 63 xs.length from HT.sIx_nat _ _ 63]
  rw [Nat.sub_zero, List.drop_zero, Nat.min_eq_right h, List.take_length]
theorem pure__law_deck {ds : List D} {hc : CH} {Q : D → CH → Prop} {E} (h : sp__law_deck ds hc Q E) : c__law_deck { nx := fun _ hc' => Q .non hc', rt := Q, xp := fun x _ hc' => E x hc' } (startC N__law_deck ds) hc := by
  obtain ⟨ns, rfl, hl, q⟩ := h
  have hcut : cutX (ns.map D.int) none (some 63) = ns.map D.int := cut63 _ (by rw [List.length_map]; exact hl)
  show (cutX (ns.map D.int) none (some 63)).length ≤ sizeLine ∧ _
  rw [hcut]
  refine ⟨by rw [List.length_map]; exact Nat.le_trans hl (by decide), ?_⟩
  refine lc_map (fun d => match d with | .int i => .int (if i < 0 then -i else i) | d => d) (fun d hd Nx k => ?_) ?_
  · obtain ⟨n, _, rfl⟩ := List.mem_map.mp hd
    exact k
  · rw [List.map_map]
    intro p hp
    refine ⟨by show 2 ≤ sizeLine; decide, fun r hr => ?_⟩
    have hrp : r ≠ p := fun e => by
      rw [e, updc_same] at hr; cases hr
    refine q r p _ ⟨hrp, ⟨ns.map fun i => if i < 0 then -i else i, 0, updc_same, ?_, ?_, by rw [List.length_map]; exact hl, Int.le_refl _, Int.le_refl _⟩, fun a h1 h2 => ?_⟩
    · rw [updc_ne (Ne.symm hrp), updc_same, List.map_map]
      rfl
    · intro c hc'
      obtain ⟨n, _, rfl⟩ := List.mem_map.mp hc'
      split <;> omega
    · rw [updc_ne h1, updc_ne h2]


theorem at__law_deck (T : Txt K mg) (B : BaseT K mg base) (KX : K.In base) (PS : Sup P mf)  : FnAt P w K mg base 1 "_law_deck" ["_law_script"] sp__law_deck :=
  fn_at (c := c__law_deck) T.d__law_deck sc__law_deck (fun f cdv A outer s H E hr => by
    have nd := sc__law_deck.nd
    exact (css_one (cs_ret (CE.bo (ce_lstM (ca_cons (ce_lcM rfl nd (own := [("_law_cell", 1)]) (ci_e (ce_sl (CE.bo (ce_v 0)) co_none (co_some ce_i))) (blkOk_by (N := ["_law_script", "_law_cell"]) (sc := defScope s__law_deck) (own := [("_law_cell", 1)]) (by decide +kernel)) (fun _ _ _ _ _ => (cgk_n 1 nd)) (fun _ _ _ _ _ => cts_nil) (fun _ _ _ _ _ => (ce_bf bf_abs T.n_abs (cba_cons (CE.bo (ce_v 1)) cba_nil)))) (ca_cons ce_i ca_nil)))))))
    (fun ds hc Q E h => len__law_deck h) (fun ds hc Q E h => pure__law_deck h) (fun _ _ _ _ _ _ us hl => match us, hl with | [_], _ => rfl)

abbrev N__law_draw : List Str := ["_law_deck_here", "_law_many", "_law_cell", "_law_place"]
def c__law_draw : CSx :=
  (cSeq (cAsg (cOp addD (cOp ixD (cV 0) (cC (.int 1))) (cC (.int 1))) (gSub' (cV 0) (cC (.int 1))))
    (cSeq (cAsg (cC (.int 0)) (gN 2))
    (cSeq (cAsg (cUn negD (cC (.int 1))) (gN 3))
    (cSeq (cIfS (cT (cOp gtD (cFn lenD (cCons (cOp ixD (cV 0) (cC (.int 0))) cNil)) (cC (.int 0))))
    (cSeq (cAsg (cOp modD (cFn intFD (cCons (cOp ixD (cV 0) (cC (.int 1))) cNil)) (cFn lenD (cCons (cOp ixD (cV 0) (cC (.int 0))) cNil))) (gN 3))
    (cAsg (cOp ixD (cOp ixD (cV 0) (cC (.int 0))) (cV 3)) (gN 2)))
    cNext)
    (cSeq (cIfS (cT (cOp geD (cV 2) (cOp powD (cC (.int 10)) (cC (.int 18)))))
    (cSeq (cAsg (cOp fdivD (cV 2) (cV 1)) (gSub' (cOp ixD (cV 0) (cC (.int 0))) (cV 3)))
    (cRet (cOp modD (cFn intFD (cCons (cV 2) cNil)) (cV 1))))
    cNext)
    (cRet (cOp modD (cOp modD (cFn intFD (cCons (cOp powD (cOp addD (cOp addD (cOp modD (cFn intFD (cCons (cV 2) cNil)) (cC (.int 2147483587))) (cOp mulD (cC (.int 7873)) (cOp ixD (cV 0) (cC (.int 1))))) (cC (.int 7))) (cC (.int 5))) cNil)) (cC (.int 2147483543))) (cV 1))))))))

def sp__law_draw : Spc := fun ds hc Q _ => ∃ b r q N many, ds = [.ref r, .int many] ∧ Dk b r q N hc ∧ N < 1000000 ∧ 0 < many ∧ many ≤ 10 ^ 18 ∧ ∀ k hc', 0 ≤ k → k < many → Dk b r q (N + 1) hc' → Q (.int k) hc'
theorem len__law_draw {ds : List D} {hc : CH} {Q E} (h : sp__law_draw ds hc Q E) : ds.length = 2 := by
  obtain ⟨b, r, q, N, many, rfl, _⟩ := h
  rfl
theorem many_ok {many : Int} (h0 : 0 < many) (h1 : many ≤ 10 ^ 18) (c : Int) : DivOk c many := divOk 64 h0 (by
  have e : (10 : Int) ^ 18 = 1000000000000000000 := by decide
  have e2 : (2 : Nat) ^ 64 = 18446744073709551616 := by decide
  omega) (by decide)
theorem pure__law_draw {ds : List D} {hc : CH} {Q : D → CH → Prop} {E} (h : sp__law_draw ds hc Q E) : c__law_draw { nx := fun _ hc' => Q .non hc', rt := Q, xp := fun x _ hc' => E x hc' } (startC N__law_draw ds) hc := by
  obtain ⟨b, r, q, N, many, rfl, ⟨hrq, ⟨cells, n, hr, hq, hnn, hlen, n0, n1⟩, fr⟩, hN, m0, m1, k⟩ := h
  unfold c__law_draw N__law_draw
  refine seq_step fun M hM => ?_
  walk_at "n"
  refine oth_some hr ?_
  walk_at "n"
  refine oth_some hr (oth_some (x := 1) rfl (hM _ _ ?_))
  have hr1 : updc hc r ([D.ref q, D.int n].set 1 (D.int (n + 1))) r = some [.ref q, .int (n + 1)] := updc_same
  have hq1 : updc hc r ([D.ref q, D.int n].set 1 (D.int (n + 1))) q = some (cells.map D.int) := by rw [updc_ne (Ne.symm hrq)]; exact hq
  have fr1 : ∀ a, a ≠ r → a ≠ q → updc hc r ([D.ref q, D.int n].set 1 (D.int (n + 1))) a = b a := fun a h1 h2 => by rw [updc_ne h1]; exact fr a h1 h2
  have dk1 : Dk b r q (N + 1) (updc hc r ([D.ref q, D.int n].set 1 (D.int (n + 1)))) := ⟨hrq, ⟨cells, n + 1, hr1, hq1, hnn, hlen, by omega, by omega⟩, fr1⟩
  revert hr1 hq1 fr1 dk1
  generalize updc hc r ([D.ref q, D.int n].set 1 (D.int (n + 1))) = hc1
  intro hr1 hq1 fr1 dk1
  refine seq_step fun M hM => ?_
  walk_at "n"
  refine hM _ _ ?_
  refine seq_step fun M hM => ?_
  walk_at "n"
  refine hM _ _ ?_
  refine seq_step fun M hM => ?_
  have rest : ∀ c pl : Int, 0 ≤ c → (10 ^ 18 ≤ c → 0 ≤ pl ∧ pl < cells.length) → M [.val (.ref r), .val (.int many), .val (.int c), .val (.int pl)] hc1 := fun c pl c0 hp => by
    refine hM _ _ ?_
    have cp : CPow 10 18 := ⟨by decide, by decide, by decide⟩
    refine seq_step fun M2 hM2 => ?_
    walk_at "n"
    refine ⟨cp, ?_⟩
    refine ite2 (fun big => ?_) (fun small => ?_)
    · obtain ⟨p0, p1⟩ := hp (of_decide_eq_true big)
      refine seq_step fun M3 hM3 => ?_
      walk_at "n"
      refine ⟨many_ok m0 m1 c, ?_⟩
      refine oth_some hr1 ?_
      walk_at "n"
      refine oth_some hq1 (oth_some (set_nat p0 (by rw [List.length_map]; exact p1)) ?_)
      refine hM3 _ _ ?_
      walk_at "n"
      refine ⟨m0, k _ _ (Int.emod_nonneg _ (by omega)) (Int.emod_lt_of_pos _ m0) ?_⟩
      refine ⟨hrq, ⟨cells.set pl.toNat (c / many), n + 1, ?_, ?_, ?_, by rw [List.length_set]; exact hlen, by omega, by omega⟩, fun a h1 h2 => ?_⟩
      · rw [updc_ne hrq]; exact hr1
      · rw [updc_same, List.map_set]
      · intro x hx
        rcases List.mem_or_eq_of_mem_set hx with hx | rfl
        · exact hnn x hx
        · exact Int.ediv_nonneg c0 (by omega)
      · rw [updc_ne h2]; exact fr1 a h1 h2
    · refine hM2 _ _ ?_
      walk_at "n"
      refine ⟨by decide, ?_⟩
      refine oth_some hr1 ?_
      walk_at "n"
      have q0 : 0 ≤ c % 2147483587 := Int.emod_nonneg _ (by decide)
      have q1 : c % 2147483587 < 2147483587 := Int.emod_lt_of_pos _ (by decide)
      refine ⟨mulOk_l (by decide), ⟨by decide, by decide, ?_⟩, by decide, m0, k _ _ (Int.emod_nonneg _ (by omega)) (Int.emod_lt_of_pos _ m0) dk1⟩
      have e2 : (2 : Nat) ^ 64 = 18446744073709551616 := by decide
      rw [e2]
      omega
  walk_at "n"
  refine oth_some hr1 ?_
  walk_at "n"
  refine oth_some hq1 ?_
  rw [List.length_map]
  refine ite2 (fun some => ?_) (fun none => ?_)
  · have l0 : (0 : Int) < (cells.length : Int) := of_decide_eq_true some
    refine seq_step fun M3 hM3 => ?_
    walk_at "n"
    refine oth_some hr1 ?_
    walk_at "n"
    refine oth_some hr1 ?_
    walk_at "n"
    refine oth_some hq1 ?_
    rw [List.length_map]
    refine ⟨l0, hM3 _ _ ?_⟩
    have p0 := Int.emod_nonneg (n + 1) (show (cells.length : Int) ≠ 0 by omega)
    have p1 := Int.emod_lt_of_pos (n + 1) l0
    revert p0 p1
    generalize (n + 1) % (cells.length : Int) = pl
    intro p0 p1
    walk_at "n"
    refine oth_some hr1 ?_
    walk_at "n"
    refine oth_some hq1 ?_
    refine atD_all p0 (by rw [List.length_map]; exact p1) fun j d ej ed => ?_
    rw [List.getElem?_map] at ed
    cases e : cells[j]? with
    | none => rw [e] at ed; cases ed
    | some c =>
      rw [e] at ed; cases ed
      exact rest c pl (hnn c (List.mem_of_getElem? e)) fun _ => ⟨p0, p1⟩
  · exact rest 0 (-1) (Int.le_refl _) fun z => absurd z (by decide)


theorem at__law_draw (T : Txt K mg) (B : BaseT K mg base) (KX : K.In base) (PS : Sup P mf)  : FnAt P w K mg base 1 "_law_draw" ["_law_deck_here", "_law_many"] sp__law_draw :=
  fn_at (c := c__law_draw) T.d__law_draw sc__law_draw (fun f cdv A outer s H E hr => by
    have nd := sc__law_draw.nd
    exact (css_cons (cs_asg (ce_op op_addD (CE.bo (ce_ix (CE.bo (ce_v 0)) ce_i)) (CE.bo ce_i)) (cg_s (ce_v 0) ce_i))
    (css_cons (cs_set nd ce_i)
    (css_cons (cs_set nd (ce_un un_negD (CE.bo ce_i)))
    (css_cons (cs_if (ct_cmp op_gtD (CE.bo (ce_bf bf_len T.n_len (cba_cons (CE.bo (ce_ix (CE.bo (ce_v 0)) ce_i)) cba_nil))) (CE.bo ce_i))
    (css_cons (cs_set nd (ce_op op_modD (CE.bo (ce_bt bt_int T.n_int (cba_cons (CE.bo (ce_ix (CE.bo (ce_v 0)) ce_i)) cba_nil))) (CE.bo (ce_bf bf_len T.n_len (cba_cons (CE.bo (ce_ix (CE.bo (ce_v 0)) ce_i)) cba_nil)))))
    (css_one (cs_set nd (ce_ix (CE.bo (ce_ix (CE.bo (ce_v 0)) ce_i)) (ce_v 3)))))
    css_nil)
    (css_cons (cs_if (ct_cmp op_geD (CE.bo (ce_v 2)) (CE.bo (ce_op op_powD (CE.bo ce_i) (CE.bo ce_i))))
    (css_cons (cs_asg (ce_op op_fdivD (CE.bo (ce_v 2)) (CE.bo (ce_v 1))) (cg_s (ce_ix (CE.bo (ce_v 0)) ce_i) (ce_v 3)))
    (css_one (cs_ret (CE.bo (ce_op op_modD (CE.bo (ce_bt bt_int T.n_int (cba_cons (CE.bo (ce_v 2)) cba_nil))) (CE.bo (ce_v 1)))))))
    css_nil)
    (css_one (cs_ret (CE.bo (ce_op op_modD (CE.bo (ce_op op_modD (CE.bo (ce_bt bt_int T.n_int (cba_cons (CE.bo (ce_op op_powD (CE.bo (ce_op op_addD (CE.bo (ce_op op_addD (CE.bo (ce_op op_modD (CE.bo (ce_bt bt_int T.n_int (cba_cons (CE.bo (ce_v 2)) cba_nil))) (CE.bo ce_i))) (CE.bo (ce_op op_mulD (CE.bo ce_i) (CE.bo (ce_ix (CE.bo (ce_v 0)) ce_i)))))) (CE.bo ce_i))) (CE.bo ce_i))) cba_nil))) (CE.bo ce_i))) (CE.bo (ce_v 1))))))))))))
    (fun ds hc Q E h => len__law_draw h) (fun ds hc Q E h => pure__law_draw h) (fun _ _ _ _ _ _ us hl => match us, hl with | [_, _], _ => rfl)

abbrev N__law_form : List Str := ["_law_deck_here", "_law_low"]
def c__law_form : CSx :=
  (cSeq (cAsg (cOp subD (cCall sp__law_draw (cCons (cV 0) (cCons (cC (.int 13)) cNil))) (cC (.int 8))) (gN 1))
    (cRet (cTup (cCons (cOp addD (cC (.int 1)) (cCall sp__law_draw (cCons (cV 0) (cCons (cC (.int 5)) cNil)))) (cCons (cV 1) (cCons (cOp addD (cV 1) (cCall sp__law_draw (cCons (cV 0) (cCons (cC (.int 9)) cNil)))) cNil))))))

/-! ### formats -/
def fmtErr : D → D
  | .tup [p, .int l, h] => if betw p 1 128 = true then if betw (.int l) (-1200) 1200 = true then if betw h l 1200 = true then .non else .str "high" else .str "low" else .str "precision"
  | .tup [p, _, _] => if betw p 1 128 = true then .str "low" else .str "precision"
  | _ => .str "format"
theorem fmtErr_int (p h : D) (l : Int) : fmtErr (.tup [p, .int l, h]) = if betw p 1 128 = true then if betw (.int l) (-1200) 1200 = true then if betw h l 1200 = true then .non else .str "high" else .str "low" else .str "precision" := rfl
theorem betw_nint {d : D} {lo hi : Int} (h : betw d lo hi = true) : ∃ i, d = .int i ∧ lo ≤ i ∧ i ≤ hi := by
  cases d <;> try (exact absurd h Bool.false_ne_true)
  rename_i i
  have h : (decide (lo ≤ i) && decide (i ≤ hi)) = true := h
  rw [Bool.and_eq_true, decide_eq_true_iff, decide_eq_true_iff] at h
  exact ⟨i, rfl, h.1, h.2⟩
theorem fmtErr_low (p m h : D) (hm : betw m (-1200) 1200 = false) : fmtErr (.tup [p, m, h]) = if betw p 1 128 = true then .str "low" else .str "precision" := by
  cases m <;> try rfl
  rename_i l
  rw [fmtErr_int, hm]
  rfl
/-- a format -/
structure Fm (p l h : Int) : Prop where
  p0 : 1 ≤ p
  p1 : p ≤ 128
  l0 : -1200 ≤ l
  lh : l ≤ h
  h1 : h ≤ 1200
abbrev fmD (p l h : Int) : D := .tup [.int p, .int l, .int h]


/-! ### bits -/
theorem up_pow {i : Int} {k : Nat} (n : Nat) (h : i.natAbs < 2 ^ k) (hk : k ≤ n := by decide) : i.natAbs < 2 ^ n := Nat.lt_of_lt_of_le h (Nat.pow_le_pow_right (by decide) hk)
theorem add_pow {i j : Int} {k : Nat} (hi : i.natAbs < 2 ^ k) (hj : j.natAbs < 2 ^ k) : (i + j).natAbs < 2 ^ (k + 1) := by
  rw [Nat.pow_succ]
  omega
theorem mul_pow {i j : Int} {k l : Nat} (hi : i.natAbs < 2 ^ k) (hj : j.natAbs < 2 ^ l) : (i * j).natAbs < 2 ^ (k + l) := by
  rw [Int.natAbs_mul, Nat.pow_add]
  exact Nat.mul_lt_mul'' hi hj
theorem low_pow {i : Int} (n : Nat) (h : i.natAbs < 2 ^ 10) (hn : 10 ≤ n := by decide) : i.natAbs < 2 ^ n := up_pow n h hn
/-! ### powers of two by any whole number -/
def P2 (s : Int) : Int := 2 ^ s.toNat
theorem P2_pos (s : Int) : 0 < P2 s := Int.pow_pos (by decide)
theorem pow2_add (a b : Nat) : (2 : Int) ^ (a + b) = 2 ^ a * 2 ^ b := Int.pow_add ..
theorem P2_shift (s : Int) (k : Nat) : P2 (s + k) * P2 (-s) = 2 ^ k * (P2 s * P2 (-(s + k))) := by
  unfold P2
  rw [← pow2_add, ← pow2_add, ← pow2_add]
  congr 1
  omega
theorem P2_nat (a b : Nat) : (2 : Int) ^ a * P2 (-((a : Int) - b)) = 2 ^ b * P2 ((a : Int) - b) := by
  unfold P2
  rw [← pow2_add, ← pow2_add]
  congr 1
  omega

def P10 (s : Int) : Int := 10 ^ s.toNat
theorem P10_pos (s : Int) : 0 < P10 s := Int.pow_pos (by decide)
theorem P2_nn {s : Int} (h : s ≤ 0) : P2 s = 1 := by unfold P2; rw [show s.toNat = 0 by omega]; rfl
theorem P10_nn {s : Int} (h : s ≤ 0) : P10 s = 1 := by unfold P10; rw [show s.toNat = 0 by omega]; rfl
theorem P2_ofNat (n : Nat) : P2 (n : Int) = 2 ^ n := rfl
theorem P10_bits (s : Int) (n : Nat) (h : s ≤ n) : (P10 s).natAbs < 2 ^ (4 * n + 1) := by
  unfold P10
  rw [Int.natAbs_pow]
  have h1 : (10 : Nat) ^ s.toNat ≤ 16 ^ s.toNat := Nat.pow_le_pow_left (by decide) _
  have h2 : (16 : Nat) ^ s.toNat = 2 ^ (4 * s.toNat) := by rw [show (16 : Nat) = 2 ^ 4 from rfl, ← Nat.pow_mul]
  have h3 : (2 : Nat) ^ (4 * s.toNat) < 2 ^ (4 * n + 1) := Nat.pow_lt_pow_right (by decide) (by omega)
  show (10 : Nat) ^ s.toNat < _
  omega
theorem P2_bits (s : Int) (n : Nat) (h : s ≤ n) : (P2 s).natAbs < 2 ^ (n + 1) := by
  unfold P2
  rw [Int.natAbs_pow]
  exact Nat.pow_lt_pow_right (by decide) (by omega)
theorem shl_bits {i s : Int} {a b : Nat} (hi : i.natAbs < 2 ^ a) (hs : s ≤ b) : (i * P2 s).natAbs < 2 ^ (a + (b + 1)) := mul_pow hi (P2_bits s b hs)
theorem intBits_le {i : Int} {a : Nat} (hi : i.natAbs < 2 ^ a) : Builtin.Int.intBits i ≤ a := by
  unfold Builtin.Int.intBits
  split
  · omega
  · rename_i h
    have h0 : i.natAbs ≠ 0 := by
      intro z
      exact h (by simp; omega)
    have := (Nat.log2_lt h0).mpr hi
    omega
theorem shlOk {i s : Int} {a b : Nat} (hi : i.natAbs < 2 ^ a) (h0 : 0 ≤ s) (hs : s ≤ b) (h : a + b ≤ 134217728) : CShl i s := by
  refine ⟨h0, ?_⟩
  have := intBits_le hi
  have e : (2 : Int) ^ 27 = 134217728 := by decide
  omega
theorem natAbs_sub_pow {i j : Int} {k : Nat} (hi : i.natAbs < 2 ^ k) (hj : j.natAbs < 2 ^ k) : (i - j).natAbs < 2 ^ (k + 1) := by
  rw [Nat.pow_succ]
  omega
theorem div_bits {i j : Int} {k : Nat} (hi : i.natAbs < 2 ^ k) : (i / j).natAbs < 2 ^ k := Nat.lt_of_le_of_lt (Int.natAbs_ediv_le_natAbs i j) hi
theorem mod_bits {i j : Int} {k : Nat} (hj : 0 < j) (h : j.natAbs < 2 ^ k) : (i % j).natAbs < 2 ^ k := by
  have h3 := Int.emod_nonneg i (show j ≠ 0 by omega)
  have h4 := Int.emod_lt_of_pos i hj
  omega
/-- the lowest bits -/
theorem and_mask {w : Int} (k : Nat) (h : 0 ≤ w) : Builtin.bitAnd w (1 * 2 ^ k - 1) = w % 2 ^ k := by
  have e1 : ((2 ^ k : Nat) : Int) = 2 ^ k := by rw [Int.natCast_pow]; rfl
  have t : 0 < 2 ^ k := Nat.pow_pos (show 0 < 2 by decide)
  obtain ⟨n, rfl⟩ := Int.eq_ofNat_of_zero_le h
  have e2 : (1 : Int) * 2 ^ k - 1 = ((2 ^ k - 1 : Nat) : Int) := by rw [← e1]; omega
  rw [e2, ← e1]
  unfold Builtin.bitAnd
  rw [decide_eq_true (Int.natCast_nonneg n), decide_eq_true (Int.natCast_nonneg _)]
  show ((Int.toNat (n : Int) &&& Int.toNat ((2 ^ k - 1 : Nat) : Int) : Nat) : Int) = _
  rw [Int.toNat_natCast, Int.toNat_natCast, Nat.and_two_pow_sub_one_eq_mod]
  rfl


/-! ### the parts of a code -/
def halfI (p : Int) : Int := 2 ^ (p - 1).toNat
def cntI (p l h : Int) : Int := (h - l + 2) * halfI p
def moreI (p c : Int) : Int := if c / halfI p - 1 > 0 then c / halfI p - 1 else 0
def ptM (p c : Int) : Int := c - moreI p c * halfI p
def ptE (p l c : Int) : Int := l + moreI p c
abbrev ptD (p l c : Int) : D := .tup [.int (ptM p c), .int (ptE p l c)]
theorem halfI_pos (p : Int) : 0 < halfI p := Int.pow_pos (by decide)
theorem halfI_two {p : Int} (h : 1 ≤ p) : (2 : Int) ^ p.toNat = 2 * halfI p := by
  unfold halfI
  rw [show p.toNat = (p - 1).toNat + 1 by omega, Int.pow_succ, Int.mul_comm]
theorem halfI_bits {p : Int} (h : p ≤ 128) : (halfI p).natAbs < 2 ^ 128 := by
  unfold halfI
  rw [Int.natAbs_pow]
  exact Nat.pow_lt_pow_right (by decide) (by omega)
theorem half_rng {p c : Int} (h : 0 ≤ c) : 0 ≤ moreI p c ∧ 0 ≤ ptM p c ∧ ptM p c < 2 * halfI p := by
  have hp := halfI_pos p
  have a := Int.emod_nonneg c (show halfI p ≠ 0 by omega)
  have b := Int.emod_lt_of_pos c hp
  have e := Int.mul_ediv_add_emod c (halfI p)
  have q0 : 0 ≤ c / halfI p := Int.ediv_nonneg h (by omega)
  unfold ptM moreI
  generalize halfI p = H at *
  generalize c / H = q at *
  split
  · rw [Int.sub_mul, Int.one_mul, Int.mul_comm q H]
    omega
  · rcases (show q = 0 ∨ q = 1 by omega) with rfl | rfl
    · rw [Int.mul_zero] at e; omega
    · rw [Int.mul_one] at e; omega
theorem more_top {p l h c : Int} (lh : l ≤ h) (h0 : 0 ≤ c) (hc : c < cntI p l h) : moreI p c ≤ h - l := by
  have hp := halfI_pos p
  have := Int.ediv_lt_of_lt_mul hp (show c < (h - l + 2) * halfI p from hc)
  unfold moreI
  split <;> omega
theorem ptM_bits {p c : Int} (h1 : 1 ≤ p) (hp : p ≤ 128) (h : 0 ≤ c) : (ptM p c).natAbs < 2 ^ 128 := by
  obtain ⟨_, b, d⟩ := half_rng (p := p) h
  have e := halfI_two h1
  have e2 : (2 : Int) ^ p.toNat ≤ 2 ^ 128 := by
    have := Nat.pow_le_pow_right (show 0 < 2 by decide) (show p.toNat ≤ 128 by omega)
    have e1 : ((2 ^ p.toNat : Nat) : Int) = 2 ^ p.toNat := by rw [Int.natCast_pow]; rfl
    have e2 : ((2 ^ 128 : Nat) : Int) = 2 ^ 128 := by rw [Int.natCast_pow]; rfl
    omega
  omega
theorem cnt_bits {p l h : Int} (f : Fm p l h) : (cntI p l h).natAbs < 2 ^ 140 := mul_pow (k := 12) (l := 128) (by have := f.l0; have := f.h1; have := f.lh; omega) (halfI_bits f.p1)
theorem cnt_pos {p l h : Int} (f : Fm p l h) : 2 ≤ cntI p l h := by
  have hp := halfI_pos p
  unfold cntI
  have := Int.mul_le_mul_of_nonneg_right (show (2 : Int) ≤ h - l + 2 by have := f.lh; omega) (Int.le_of_lt hp)
  omega
/-- what the law writes -/
theorem law_parts_lo {p l c : Int} (h1 : 1 ≤ p) (h0 : 0 ≤ c) (h : c < 2 ^ p.toNat) : ptD p l c = .tup [.int c, .int l] := by
  have hp := halfI_pos p
  rw [halfI_two h1] at h
  have : moreI p c = 0 := by
    unfold moreI
    rw [if_neg]
    have := Int.ediv_lt_of_lt_mul hp (show c < 2 * halfI p from h)
    omega
  unfold ptD ptM ptE
  rw [this, Int.zero_mul, Int.sub_zero, Int.add_zero]
theorem law_parts_hi {p l c : Int} (h1 : 1 ≤ p) (h : ¬ c < 2 ^ p.toNat) : ptD p l c = .tup [.int (halfI p + (c - 2 ^ p.toNat) % halfI p), .int (l + 1 + (c - 2 ^ p.toNat) / halfI p)] := by
  have hp := halfI_pos p
  rw [halfI_two h1] at h ⊢
  have e : (c - 2 * halfI p) / halfI p = c / halfI p - 2 := by
    rw [show c - 2 * halfI p = c + (-2) * halfI p by omega, Int.add_mul_ediv_right _ _ (by omega)]
    omega
  have e2 : (c - 2 * halfI p) % halfI p = c % halfI p := by
    rw [show c - 2 * halfI p = c + halfI p * (-2) by omega, Int.add_mul_emod_self_left]
  have k := Int.mul_ediv_add_emod c (halfI p)
  have g : 2 ≤ c / halfI p := (Int.le_ediv_iff_mul_le hp).mpr (by omega)
  have m : moreI p c = c / halfI p - 1 := by
    unfold moreI
    rw [if_pos (by omega)]
  unfold ptD ptM ptE
  rw [m, e, e2]
  generalize c / halfI p = q at *
  generalize halfI p = H at *
  rw [Int.sub_mul, Int.one_mul, Int.mul_comm q H]
  rw [show c - (H * q - H) = H + c % H by omega, show l + (q - 1) = l + 1 + (q - 2) by omega]


/-- 2 ^ s is at most num / den -/
def AtM (num den s : Int) : Prop := den * P2 s ≤ num * P2 (-s)
theorem atM_shift {num den s : Int} (k : Nat) : AtM num den (s + k) ↔ 2 ^ k * (den * P2 s) ≤ num * P2 (-s) := by
  unfold AtM
  have h1 := P2_pos (-s)
  have h2 := P2_pos (-(s + k))
  have e := P2_shift s k
  constructor
  · intro h
    have h3 := Int.mul_le_mul_of_nonneg_right h (Int.le_of_lt h1)
    rw [Int.mul_assoc, e] at h3
    refine Int.le_of_mul_le_mul_right (a := P2 (-(s + k))) ?_ h2
    have e1 : 2 ^ k * (den * P2 s) * P2 (-(s + k)) = den * (2 ^ k * (P2 s * P2 (-(s + k)))) := by
      rw [Int.mul_assoc, Int.mul_assoc, Int.mul_left_comm]
    have e2 : num * P2 (-s) * P2 (-(s + k)) = num * P2 (-(s + k)) * P2 (-s) := by
      rw [Int.mul_assoc, Int.mul_comm (P2 (-s)), ← Int.mul_assoc]
    rw [e1, e2]
    exact h3
  · intro h
    have h3 := Int.mul_le_mul_of_nonneg_right h (Int.le_of_lt h2)
    refine Int.le_of_mul_le_mul_right (a := P2 (-s)) ?_ h1
    rw [Int.mul_assoc den, e]
    have e1 : 2 ^ k * (den * P2 s) * P2 (-(s + k)) = den * (2 ^ k * (P2 s * P2 (-(s + k)))) := by
      rw [Int.mul_assoc, Int.mul_assoc, Int.mul_left_comm]
    have e2 : num * P2 (-s) * P2 (-(s + k)) = num * P2 (-(s + k)) * P2 (-s) := by
      rw [Int.mul_assoc, Int.mul_comm (P2 (-s)), ← Int.mul_assoc]
    rw [← e1, ← e2]
    exact h3
theorem AtM.down {num den s t : Int} (hd : 0 < den) (h : AtM num den t) (l : s ≤ t) : AtM num den s := by
  obtain ⟨k, rfl⟩ : ∃ k : Nat, t = s + k := ⟨(t - s).toNat, by omega⟩
  have h2 := (atM_shift k).mp h
  unfold AtM
  have h3 : 0 ≤ den * P2 s := Int.mul_nonneg (by omega) (Int.le_of_lt (P2_pos s))
  have h4 : (1 : Int) ≤ 2 ^ k := Int.pow_pos (by decide)
  have h5 := Int.mul_le_mul_of_nonneg_right h4 h3
  rw [Int.one_mul] at h5
  omega
/-- the floor of the logarithm -/
def FL (num den t : Int) : Prop := AtM num den t ∧ ¬ AtM num den (t + 1)
theorem FL.uniq {num den s t : Int} (hd : 0 < den) (h : FL num den s) (g : FL num den t) : s = t := by
  by_cases l : s < t
  · exact absurd (g.1.down hd (show s + 1 ≤ t by omega)) h.2
  · by_cases l2 : t < s
    · exact absurd (h.1.down hd (show t + 1 ≤ s by omega)) g.2
    · omega
/-- s is where bits digits stand ahead of the point -/
theorem FL.cut {num den t : Int} {bits : Nat} (h : FL num den t) (hb : 0 < bits) : 2 ^ (bits - 1) * (den * P2 (t - bits + 1)) ≤ num * P2 (-(t - bits + 1)) ∧ num * P2 (-(t - bits + 1)) < 2 ^ bits * (den * P2 (t - bits + 1)) := by
  refine ⟨(atM_shift (bits - 1)).mp ?_, ?_⟩
  · rw [show t - bits + 1 + ((bits - 1 : Nat) : Int) = t by omega]
    exact h.1
  · have h2 : ¬ 2 ^ bits * (den * P2 (t - bits + 1)) ≤ num * P2 (-(t - bits + 1)) := fun z => h.2 (by
      have := (atM_shift (num := num) (den := den) (s := t - bits + 1) bits).mpr z
      rw [show t - bits + 1 + (bits : Int) = t + 1 by omega] at this
      exact this)
    omega
theorem intBits_lo {n : Int} (h : 0 < n) : (2 : Int) ^ (Builtin.Int.intBits n - 1) ≤ n ∧ 0 < Builtin.Int.intBits n ∧ n < 2 ^ Builtin.Int.intBits n := by
  unfold Builtin.Int.intBits
  rw [if_neg (by simp; omega)]
  have h1 : n.natAbs ≠ 0 := by omega
  have h2 := Nat.log2_self_le h1
  have h3 := Nat.lt_log2_self (n := n.natAbs)
  have e1 : ((2 ^ n.natAbs.log2 : Nat) : Int) = 2 ^ n.natAbs.log2 := by rw [Int.natCast_pow]; rfl
  have e2 : ((2 ^ (n.natAbs.log2 + 1) : Nat) : Int) = 2 ^ (n.natAbs.log2 + 1) := by rw [Int.natCast_pow]; rfl
  refine ⟨?_, by omega, ?_⟩
  · rw [Nat.add_sub_cancel, ← e1]; omega
  · rw [← e2]; omega
theorem FL_of {num den : Int} (hn : 0 < num) (hd : 0 < den) (t : Int) (ht : t = (Builtin.Int.intBits num : Int) - (Builtin.Int.intBits den : Int)) : (AtM num den t → FL num den t) ∧ (¬ AtM num den t → FL num den (t - 1)) := by
  obtain ⟨n1, n2, n3⟩ := intBits_lo hn
  obtain ⟨d1, d2, d3⟩ := intBits_lo hd
  revert n1 n2 n3 d1 d2 d3 ht
  generalize Builtin.Int.intBits num = bn
  generalize Builtin.Int.intBits den = bd
  intro ht n1 n2 n3 d1 d2 d3
  constructor
  · intro h
    refine ⟨h, fun g => ?_⟩
    unfold AtM at g
    have e := P2_nat bn (bd - 1)
    rw [show (bn : Int) - ((bd - 1 : Nat) : Int) = t + 1 by omega] at e
    have h1 := Int.mul_lt_mul_of_pos_right n3 (P2_pos (-(t + 1)))
    have h2 := Int.mul_le_mul_of_nonneg_right d1 (Int.le_of_lt (P2_pos (t + 1)))
    omega
  · intro h
    refine ⟨?_, by rw [show t - 1 + 1 = t by omega]; exact h⟩
    unfold AtM
    have e := P2_nat (bn - 1) bd
    rw [show ((bn - 1 : Nat) : Int) - (bd : Int) = t - 1 by omega] at e
    have h1 := Int.mul_le_mul_of_nonneg_right n1 (Int.le_of_lt (P2_pos (-(t - 1))))
    have h2 := Int.mul_lt_mul_of_pos_right d3 (P2_pos (t - 1))
    omega
/-- the row of a power of ten cut to some bits -/
def CutAt (p : Int) (bits : Nat) (g s : Int) : Prop := 2 ^ (bits - 1) ≤ g ∧ g < 2 ^ bits ∧ g * (P10 (-p) * P2 s) ≤ P10 p * P2 (-s) ∧ P10 p * P2 (-s) < (g + 1) * (P10 (-p) * P2 s)
def cutH (p g s : Int) : Int := if P10 p * P2 (-s) = g * (P10 (-p) * P2 s) then 0 else 1
theorem natAbs_lt_two {i : Int} {k : Nat} (h : i.natAbs < 2 ^ k) : i < 2 ^ k := by
  have e : ((2 ^ k : Nat) : Int) = 2 ^ k := by rw [Int.natCast_pow]; rfl
  omega
theorem two_le_exp {a b : Nat} (h : (2 : Int) ^ a < 2 ^ b) : a < b := by
  have e : ((2 ^ a : Nat) : Int) = 2 ^ a := by rw [Int.natCast_pow]; rfl
  have e2 : ((2 ^ b : Nat) : Int) = 2 ^ b := by rw [Int.natCast_pow]; rfl
  exact (Nat.pow_lt_pow_iff_right (by decide)).mp (show 2 ^ a < 2 ^ b by omega)

/-- the floor of the logarithm, as the program finds it -/
def flogF (num den : Int) : Int := if den * P2 ((Builtin.Int.intBits num : Int) - (Builtin.Int.intBits den : Int)) ≤ num * P2 (-((Builtin.Int.intBits num : Int) - (Builtin.Int.intBits den : Int))) then (Builtin.Int.intBits num : Int) - (Builtin.Int.intBits den : Int) else (Builtin.Int.intBits num : Int) - (Builtin.Int.intBits den : Int) - 1
theorem flogF_FL {num den : Int} (hn : 0 < num) (hd : 0 < den) : FL num den (flogF num den) := by
  obtain ⟨h1, h2⟩ := FL_of hn hd _ rfl
  unfold flogF
  split
  · rename_i h; exact h1 h
  · rename_i h; exact h2 h
theorem flogF_bd {num den : Int} {a : Nat} (hn : num.natAbs < 2 ^ a) (hd : den.natAbs < 2 ^ a) : (flogF num den).natAbs ≤ a + 1 := by
  have h1 := intBits_le hn
  have h2 := intBits_le hd
  unfold flogF
  split <;> omega
/-- a fraction cut to some bits: the shift, the factor, both sides -/
def cutS (num den : Int) (bits : Nat) : Int := flogF num den - bits + 1
def cutG (num den : Int) (bits : Nat) : Int := num * P2 (-(cutS num den bits)) / (den * P2 (cutS num den bits))
def cutE (num den : Int) (bits : Nat) : Bool := decide (num * P2 (-(cutS num den bits)) % (den * P2 (cutS num den bits)) = 0)
/-- what cut_to tells of a fraction -/
def CutQ (num den : Int) (bits : Nat) (g s : Int) : Prop := 2 ^ (bits - 1) ≤ g ∧ g < 2 ^ bits ∧ g * (den * P2 s) ≤ num * P2 (-s) ∧ num * P2 (-s) < (g + 1) * (den * P2 s)
theorem cutQ_of {num den : Int} {bits : Nat} (hn : 0 < num) (hd : 0 < den) (hb : 0 < bits) : CutQ num den bits (cutG num den bits) (cutS num den bits) := by
  obtain ⟨h1, h2⟩ := (flogF_FL hn hd).cut hb
  have e : flogF num den - bits + 1 = cutS num den bits := rfl
  rw [e] at h1 h2
  have dpos : 0 < den * P2 (cutS num den bits) := Int.mul_pos hd (P2_pos _)
  unfold CutQ cutG
  revert h1 h2 dpos
  generalize cutS num den bits = s
  intro h1 h2 dpos
  have gd := Int.mul_ediv_add_emod (num * P2 (-s)) (den * P2 s)
  have gm := Int.emod_nonneg (num * P2 (-s)) (show den * P2 s ≠ 0 by omega)
  have gl := Int.emod_lt_of_pos (num * P2 (-s)) dpos
  revert gd gm gl
  generalize num * P2 (-s) / (den * P2 s) = g
  generalize num * P2 (-s) % (den * P2 s) = r
  intro gd gm gl
  rw [Int.mul_comm (den * P2 s) g] at gd
  have e1 : (g + 1) * (den * P2 s) = g * (den * P2 s) + den * P2 s := by rw [Int.add_mul, Int.one_mul]
  refine ⟨?_, ?_, by omega, by omega⟩
  · exact Int.le_of_lt_add_one (Int.lt_of_mul_lt_mul_right (a := den * P2 s) (by rw [e1]; omega) (Int.le_of_lt dpos))
  · exact Int.lt_of_mul_lt_mul_right (a := den * P2 s) (by omega) (Int.le_of_lt dpos)
theorem cutE_iff {num den : Int} {bits : Nat} : cutE num den bits = decide (num * P2 (-(cutS num den bits)) = cutG num den bits * (den * P2 (cutS num den bits))) := by
  unfold cutE cutG
  refine decide_eq_decide.mpr ?_
  have gd := Int.mul_ediv_add_emod (num * P2 (-(cutS num den bits))) (den * P2 (cutS num den bits))
  rw [Int.mul_comm (den * P2 (cutS num den bits))] at gd
  omega
theorem CutQ.uniq {num den : Int} {bits : Nat} {g s g' s' : Int} (hd : 0 < den) (hb : 0 < bits) (h : CutQ num den bits g s) (k : CutQ num den bits g' s') : g = g' ∧ s = s' := by
  have fl : ∀ {g s}, CutQ num den bits g s → FL num den (s + (bits - 1 : Nat)) := fun {g s} c => by
    have dpos : 0 < den * P2 s := Int.mul_pos hd (P2_pos _)
    obtain ⟨c1, c2, c3, c4⟩ := c
    refine ⟨(atM_shift _).mpr (Int.le_trans (Int.mul_le_mul_of_nonneg_right c1 (Int.le_of_lt dpos)) c3), fun z => ?_⟩
    have z2 := (atM_shift (num := num) (den := den) (s := s) bits).mp (by rw [show s + ((bits - 1 : Nat) : Int) + 1 = s + (bits : Int) by omega] at z; exact z)
    have z3 : (g + 1) * (den * P2 s) ≤ 2 ^ bits * (den * P2 s) := Int.mul_le_mul_of_nonneg_right (by omega) (Int.le_of_lt dpos)
    omega
  have es : s = s' := by
    have := (fl h).uniq hd (fl k)
    omega
  subst es
  have dpos : 0 < den * P2 s := Int.mul_pos hd (P2_pos _)
  obtain ⟨_, _, h3, h4⟩ := h
  obtain ⟨_, _, k3, k4⟩ := k
  have a1 : g < g' + 1 := Int.lt_of_mul_lt_mul_right (a := den * P2 s) (by omega) (Int.le_of_lt dpos)
  have a2 : g' < g + 1 := Int.lt_of_mul_lt_mul_right (a := den * P2 s) (by omega) (Int.le_of_lt dpos)
  exact ⟨by omega, rfl⟩
/-- one bit more: the factor is doubled, or doubled and one more -/
theorem CutQ.more {num den : Int} {bits : Nat} {g s g' s' : Int} (hd : 0 < den) (hb : 0 < bits) (h : CutQ num den bits g s) (k : CutQ num den (bits + 1) g' s') : s' = s - 1 ∧ (g' = 2 * g ∨ g' = 2 * g + 1) := by
  have fl : ∀ {b : Nat} {g s}, 0 < b → CutQ num den b g s → FL num den (s + (b - 1 : Nat)) := fun {b g s} hb c => by
    have dpos : 0 < den * P2 s := Int.mul_pos hd (P2_pos _)
    obtain ⟨c1, c2, c3, c4⟩ := c
    refine ⟨(atM_shift _).mpr (Int.le_trans (Int.mul_le_mul_of_nonneg_right c1 (Int.le_of_lt dpos)) c3), fun z => ?_⟩
    have z2 := (atM_shift (num := num) (den := den) (s := s) b).mp (by rw [show s + ((b - 1 : Nat) : Int) + 1 = s + (b : Int) by omega] at z; exact z)
    have z3 : (g + 1) * (den * P2 s) ≤ 2 ^ b * (den * P2 s) := Int.mul_le_mul_of_nonneg_right (by omega) (Int.le_of_lt dpos)
    omega
  have es : s = s' + 1 := by
    have := (fl hb h).uniq hd (fl (Nat.succ_pos _) k)
    omega
  subst es
  have dpos : 0 < den * P2 s' := Int.mul_pos hd (P2_pos _)
  obtain ⟨_, _, h3, h4⟩ := h
  obtain ⟨_, _, k3, k4⟩ := k
  have sh : ∀ G : Int, G * (den * P2 (s' + 1)) ≤ num * P2 (-(s' + 1)) ↔ 2 * G * (den * P2 s') ≤ num * P2 (-s') := fun G => by
    have := atM_shift (num := num) (den := G * den) (s := s') 1
    unfold AtM at this
    rw [show s' + ((1 : Nat) : Int) = s' + 1 by omega, show (2 : Int) ^ 1 = 2 by rfl] at this
    simp only [Int.mul_assoc] at this ⊢
    exact this
  have u1 := (sh g).mp h3
  have u2 : ¬ 2 * (g + 1) * (den * P2 s') ≤ num * P2 (-s') := fun z => by have := (sh (g + 1)).mpr z; omega
  have a1 : 2 * g < g' + 1 := Int.lt_of_mul_lt_mul_right (a := den * P2 s') (by omega) (Int.le_of_lt dpos)
  have a2 : g' < 2 * (g + 1) := Int.lt_of_mul_lt_mul_right (a := den * P2 s') (by omega) (Int.le_of_lt dpos)
  exact ⟨by omega, by omega⟩
theorem P2_le {s : Int} {n : Nat} (h : s ≤ n) : P2 s ≤ 2 ^ n := by
  have := P2_bits s n h
  unfold P2
  have e1 : ((2 ^ s.toNat : Nat) : Int) = 2 ^ s.toNat := by rw [Int.natCast_pow]; rfl
  have e2 : ((2 ^ n : Nat) : Int) = 2 ^ n := by rw [Int.natCast_pow]; rfl
  have := Nat.pow_le_pow_right (n := 2) (by decide) (show s.toNat ≤ n by omega)
  omega
theorem cut_g_bd {g : Int} {b n : Nat} (h0 : 0 ≤ g) (h : g < 2 ^ b) (hb : b ≤ n) : g.natAbs < 2 ^ n := by
  have e1 : ((2 ^ b : Nat) : Int) = 2 ^ b := by rw [Int.natCast_pow]; rfl
  have := Nat.pow_le_pow_right (n := 2) (by decide) hb
  omega
theorem CutQ.g0 {num den : Int} {bits : Nat} {g s : Int} (h : CutQ num den bits g s) : 1 ≤ g := by
  have h1 : (0 : Int) < 2 ^ (bits - 1) := Int.pow_pos (by decide)
  have := h.1
  omega
theorem cutS_bd {num den : Int} {bits a : Nat} (hn : num.natAbs < 2 ^ a) (hd : den.natAbs < 2 ^ a) : (cutS num den bits).natAbs ≤ a + bits + 2 := by
  have := flogF_bd hn hd
  unfold cutS
  omega
theorem cutQ_at {p : Int} {bits : Nat} {g s : Int} : CutQ (P10 p) (P10 (-p)) bits g s = CutAt p bits g s := rfl


/-! ### positions -/
/-- the exponent of the row of codes in which num / den lies -/
structure ExpAt (p l h num den e : Int) : Prop where
  lo : l ≤ e
  hi : e ≤ h
  up : e < h → ¬ AtM num den (p + e)
  dn : l < e → AtM num den (p + e - 1)
theorem ExpAt.uniq {p l h num den e e' : Int} (hd : 0 < den) (x : ExpAt p l h num den e) (y : ExpAt p l h num den e') : e = e' := by
  by_cases a : e < e'
  · exact absurd ((y.dn (by have := x.lo; omega)).down hd (show p + e ≤ p + e' - 1 by omega)) (x.up (by have := y.hi; omega))
  · by_cases b : e' < e
    · exact absurd ((x.dn (by have := y.lo; omega)).down hd (show p + e' ≤ p + e - 1 by omega)) (y.up (by have := x.hi; omega))
    · omega
abbrev posN (p l num den e : Int) : Int := (e - l) * halfI p * (den * P2 e) + num * P2 (-e)
abbrev posW (den e : Int) : Int := den * P2 e
/-- twice the value of a code, in units of 2 ^ l -/
def uV (p c : Int) : Int := ptM p c * P2 (moreI p c + 1)
theorem uV_nn {p c : Int} (h : 0 ≤ c) : 0 ≤ uV p c := Int.mul_nonneg (half_rng h).2.1 (Int.le_of_lt (P2_pos _))
theorem P2_succ {s : Int} (h : 0 ≤ s) : P2 (s + 1) = 2 * P2 s := by
  unfold P2
  rw [show (s + 1).toNat = s.toNat + 1 by omega, Int.pow_succ, Int.mul_comm]
theorem more_lo {p c : Int} (h : 0 ≤ c) (m : 0 < moreI p c) : halfI p ≤ ptM p c := by
  have hp := halfI_pos p
  have a := Int.emod_nonneg c (show halfI p ≠ 0 by omega)
  have e := Int.mul_ediv_add_emod c (halfI p)
  unfold ptM
  unfold moreI at m ⊢
  generalize halfI p = H at *
  generalize c / H = q at *
  by_cases z : q - 1 > 0
  · rw [if_pos z, Int.sub_mul, Int.one_mul, Int.mul_comm q H]
    omega
  · rw [if_neg z] at m
    omega
theorem next_cases {p c : Int} (h : 0 ≤ c) : (moreI p (c + 1) = moreI p c ∧ ptM p (c + 1) = ptM p c + 1) ∨ (moreI p (c + 1) = moreI p c + 1 ∧ ptM p (c + 1) = halfI p ∧ ptM p c + 1 = 2 * halfI p) := by
  have hp := halfI_pos p
  have a := Int.emod_nonneg c (show halfI p ≠ 0 by omega)
  have b := Int.emod_lt_of_pos c hp
  have e := Int.mul_ediv_add_emod c (halfI p)
  have q0 : 0 ≤ c / halfI p := Int.ediv_nonneg h (by omega)
  unfold ptM moreI
  generalize halfI p = H at *
  generalize c % H = r at *
  generalize hq : c / H = q at *
  by_cases z : r + 1 < H
  · have e2 : (c + 1) / H = q := by
      rw [show c + 1 = (r + 1) + H * q by omega, Int.add_mul_ediv_left _ _ (by omega), Int.ediv_eq_zero_of_lt (by omega) z]
      omega
    rw [e2]
    exact .inl ⟨rfl, by omega⟩
  · have e2 : (c + 1) / H = q + 1 := by
      rw [show c + 1 = H * (q + 1) by rw [Int.mul_add, Int.mul_one]; omega, Int.mul_ediv_cancel_left _ (by omega)]
    rw [e2]
    by_cases y : q = 0
    · subst y
      rw [Int.mul_zero] at e
      exact .inl ⟨rfl, by rw [if_neg (by omega), if_neg (by omega)]; omega⟩
    · refine .inr ?_
      have t : q * H = H * q := Int.mul_comm ..
      by_cases x : q - 1 > 0
      · rw [if_pos (by omega), if_pos x]
        refine ⟨by omega, ?_, ?_⟩
        · rw [show q + 1 - 1 = q by omega, t]; omega
        · rw [Int.sub_mul, Int.one_mul, t]; omega
      · obtain rfl : q = 1 := by omega
        rw [if_pos (by omega), if_neg x]
        rw [Int.mul_one] at e
        refine ⟨by omega, ?_, ?_⟩
        · rw [show (1 : Int) + 1 - 1 = 1 by omega, Int.one_mul]; omega
        · omega
theorem uV_next {p c : Int} (h : 0 ≤ c) : uV p (c + 1) = (ptM p c + 1) * P2 (moreI p c + 1) := by
  unfold uV
  have m0 := (half_rng (p := p) h).1
  rcases next_cases (p := p) h with ⟨a, b⟩ | ⟨a, b, d⟩
  · rw [a, b]
  · rw [a, b, d, P2_succ (show 0 ≤ moreI p c + 1 by omega), Int.mul_assoc, Int.mul_left_comm]
theorem uV_lt {p c : Int} (h : 0 ≤ c) : uV p (c + 1) = uV p c + P2 (moreI p c + 1) := by
  rw [uV_next h, Int.add_mul, Int.one_mul]
  rfl
theorem more_le {p c : Int} (h : 0 ≤ c) : moreI p (c + 1) ≤ moreI p c + 1 := by
  rcases next_cases (p := p) h with ⟨a, b⟩ | ⟨a, b, d⟩ <;> omega
theorem uV_pos {p c : Int} (h : 0 < c) : 0 < uV p c := by
  have := uV_lt (p := p) (show 0 ≤ c - 1 by omega)
  rw [show c - 1 + 1 = c by omega] at this
  have a := uV_nn (p := p) (show 0 ≤ c - 1 by omega)
  have b := P2_pos (moreI p (c - 1) + 1)
  omega
theorem more_room {p l h c : Int} (h0 : 0 ≤ c) (g : moreI p c < h - l) : c + 1 < cntI p l h := by
  obtain ⟨a, b, d⟩ := half_rng (p := p) h0
  have hp := halfI_pos p
  have e : c = moreI p c * halfI p + ptM p c := by unfold ptM; omega
  have k := Int.mul_le_mul_of_nonneg_right (show moreI p c + 1 ≤ h - l by omega) (Int.le_of_lt hp)
  unfold cntI
  rw [Int.add_mul] at k ⊢
  rw [Int.one_mul] at k
  omega
/-- the code below A / B -/
structure FlAt (p l h A B c : Int) : Prop where
  c0 : 0 ≤ c
  c1 : c < cntI p l h
  lo : uV p c * B ≤ A
  up : c + 1 < cntI p l h → A < uV p (c + 1) * B
theorem fl_go {p l h A B : Int} : ∀ (k : Nat) (c : Int), 0 ≤ c → uV p c * B ≤ A → c + k = cntI p l h - 1 → ∃ c', FlAt p l h A B c'
  | 0, c, h0, h1, h2 => ⟨c, h0, by omega, h1, fun z => by omega⟩
  | k + 1, c, h0, h1, h2 => by
    by_cases z : A < uV p (c + 1) * B
    · exact ⟨c, h0, by omega, h1, fun _ => z⟩
    · exact fl_go k (c + 1) (by omega) (by omega) (by omega)
theorem fl_exists {p l h A B : Int} (f : Fm p l h) (hA : 0 ≤ A) : ∃ c, FlAt p l h A B c := by
  have := cnt_pos f
  refine fl_go (cntI p l h - 1).toNat 0 (Int.le_refl _) ?_ (by omega)
  have : uV p 0 = 0 := by
    obtain ⟨a, b, d⟩ := half_rng (p := p) (Int.le_refl 0)
    have e : ptM p 0 = 0 := by
      unfold ptM moreI
      rw [Int.zero_ediv, if_neg (by decide), Int.zero_mul]
      rfl
    unfold uV
    rw [e, Int.zero_mul]
  rw [this, Int.zero_mul]
  exact hA
abbrev unA (num l : Int) : Int := num * P2 (1 - l)
abbrev unB (den l : Int) : Int := den * P2 (l - 1)
theorem FlAt.exp {p l h num den c : Int} (f : Fm p l h) (d0 : 0 < den) (x : FlAt p l h (unA num l) (unB den l) c) : ExpAt p l h num den (ptE p l c) := by
  obtain ⟨m0, m1, m2⟩ := half_rng (p := p) x.c0
  have hp := halfI_pos p
  have B0 : 0 < unB den l := Int.mul_pos d0 (P2_pos _)
  have p0 := f.p0
  have t := more_top f.lh x.c0 x.c1
  refine ⟨by unfold ptE; omega, by unfold ptE; omega, fun g => ?_, fun g => ?_⟩
  · have g : moreI p c < h - l := by unfold ptE at g; omega
    have u := x.up (more_room x.c0 g)
    rw [uV_next x.c0] at u
    intro y
    have y := (atM_shift (num := num) (den := den) (s := l - 1) (p + moreI p c + 1).toNat).mp (by rw [show l - 1 + ((p + moreI p c + 1).toNat : Int) = p + ptE p l c by unfold ptE; omega]; exact y)
    rw [show -(l - 1) = 1 - l by omega] at y
    have e : (2 : Int) ^ (p + moreI p c + 1).toNat = 2 * halfI p * P2 (moreI p c + 1) := by
      rw [← halfI_two p0]
      unfold P2
      rw [← Int.pow_add]
      congr 1
      omega
    rw [e] at y
    have k := Int.mul_le_mul_of_nonneg_right (Int.mul_le_mul_of_nonneg_right (show ptM p c + 1 ≤ 2 * halfI p by omega) (Int.le_of_lt (P2_pos (moreI p c + 1)))) (Int.le_of_lt B0)
    exact Int.lt_irrefl _ (Int.lt_of_lt_of_le u (Int.le_trans k y))
  · have g : 0 < moreI p c := by unfold ptE at g; omega
    have y := more_lo x.c0 g
    have e : (2 : Int) ^ (p + moreI p c).toNat = halfI p * P2 (moreI p c + 1) := by
      unfold P2 halfI
      rw [← Int.pow_add]
      congr 1
      omega
    have k := Int.mul_le_mul_of_nonneg_right (Int.mul_le_mul_of_nonneg_right y (Int.le_of_lt (P2_pos (moreI p c + 1)))) (Int.le_of_lt B0)
    have z := (atM_shift (num := num) (den := den) (s := l - 1) (p + moreI p c).toNat).mpr (by
      rw [e, show -(l - 1) = 1 - l by omega]
      exact Int.le_trans k x.lo)
    rw [show l - 1 + ((p + moreI p c).toNat : Int) = p + ptE p l c - 1 by unfold ptE; omega] at z
    exact z
/-- one scale for both fractions -/
theorem scl (num den l : Int) (k : Nat) (e : Int) (he : e = l - 1 + k) (d0 : 0 < den) : ∃ G F, 0 < G ∧ 0 < F ∧ num * P2 (-e) * G = unA num l * F ∧ den * P2 e * G = 2 ^ k * unB den l * F := by
  have s := P2_shift (l - 1) k
  rw [← he, show -(l - 1) = 1 - l by omega] at s
  refine ⟨2 ^ k * P2 (l - 1), P2 e, Int.mul_pos (Int.pow_pos (by decide)) (P2_pos _), P2_pos _, ?_, ?_⟩
  · rw [show num * P2 (-e) * (2 ^ k * P2 (l - 1)) = num * (2 ^ k * (P2 (l - 1) * P2 (-e))) by
      rw [Int.mul_assoc, Int.mul_comm (P2 (-e)), Int.mul_assoc]]
    rw [← s]
    unfold unA
    rw [Int.mul_comm (P2 e), Int.mul_assoc]
  · unfold unB
    rw [Int.mul_assoc den, Int.mul_comm (P2 e), ← Int.mul_assoc den, Int.mul_left_comm den]
/-- where a code is the code below -/
theorem pos_at {p l h num den c e : Int} (f : Fm p l h) (d0 : 0 < den) (x : FlAt p l h (unA num l) (unB den l) c) (y : ExpAt p l h num den e) : 0 < posW den e ∧ c * posW den e ≤ posN p l num den e ∧ (c * posW den e = posN p l num den e ↔ unA num l = uV p c * unB den l) ∧ (c + 1 < cntI p l h → posN p l num den e < (c + 1) * posW den e) := by
  obtain rfl := y.uniq d0 (x.exp f d0)
  have W0 : 0 < posW den (ptE p l c) := Int.mul_pos d0 (P2_pos _)
  obtain ⟨m0, m1, m2⟩ := half_rng (p := p) x.c0
  obtain ⟨G, F, g0, f0, e1, e2⟩ := scl num den l (moreI p c + 1).toNat (ptE p l c) (by unfold ptE; omega) d0
  have ec : c = moreI p c * halfI p + ptM p c := by unfold ptM; omega
  have en : posN p l num den (ptE p l c) = moreI p c * halfI p * posW den (ptE p l c) + num * P2 (-(ptE p l c)) := by
    unfold posN
    rw [show ptE p l c - l = moreI p c by unfold ptE; omega]
  have key : ∀ k : Int, k * posW den (ptE p l c) * G = k * P2 (moreI p c + 1) * unB den l * F := fun k => by
    unfold posW
    rw [Int.mul_assoc k, e2]
    unfold P2
    rw [Int.mul_assoc k, Int.mul_assoc k]
  have lo := x.lo
  have up := x.up
  rw [uV_next x.c0] at up
  unfold uV at lo ⊢
  revert W0 ec en key e1 lo up
  generalize posW den (ptE p l c) = W
  generalize posN p l num den (ptE p l c) = N
  generalize num * P2 (-(ptE p l c)) = X
  generalize unA num l = A
  generalize unB den l = B
  generalize moreI p c * halfI p = T
  generalize ptM p c = m
  generalize P2 (moreI p c + 1) = g
  intro W0 e1 ec en key lo up
  have cm : ∀ k : Int, (T + k) * W = T * W + k * W := fun k => Int.add_mul ..
  refine ⟨W0, ?_, ?_, fun z => ?_⟩
  · have a := Int.mul_le_mul_of_nonneg_right lo (Int.le_of_lt f0)
    rw [← key, ← e1] at a
    have b := Int.le_of_mul_le_mul_right a g0
    rw [ec, cm]
    omega
  · rw [ec, cm]
    constructor
    · intro z
      have z : m * W = X := by omega
      have a := key m
      rw [z, e1] at a
      exact Int.eq_of_mul_eq_mul_right (by omega) a
    · intro z
      have a := key m
      rw [← z, ← e1] at a
      have := Int.eq_of_mul_eq_mul_right (by omega) a
      omega
  · have a := Int.mul_lt_mul_of_pos_right (up z) f0
    rw [← key, ← e1] at a
    have b := Int.lt_of_mul_lt_mul_right a (Int.le_of_lt g0)
    rw [ec, show T + m + 1 = T + (m + 1) by omega, cm]
    omega
theorem P10_b {s : Int} (n m : Nat) (h : s ≤ n) (hm : 4 * n + 1 ≤ m) : (P10 s).natAbs < 2 ^ m := Nat.lt_of_lt_of_le (P10_bits s n h) (Nat.pow_le_pow_right (by decide) hm)
theorem P2_max (s : Int) : (2 : Int) ^ (if s > 0 then s else 0).toNat = P2 s := by
  unfold P2
  congr 1
  split <;> omega
theorem div_at {N W c : Int} (W0 : 0 < W) (lo : c * W ≤ N) (up : N < (c + 1) * W) : N / W = c := by
  have a := (Int.le_ediv_iff_mul_le W0).mpr lo
  have b := Int.ediv_lt_of_lt_mul W0 up
  omega
theorem ceil_at {N W c : Int} (W0 : 0 < W) (lo : c * W < N) (up : N ≤ (c + 1) * W) : -(-N / W) = c + 1 := by
  have e1 : (-(c + 1)) * W = -((c + 1) * W) := Int.neg_mul ..
  have e2 : (-c) * W = -(c * W) := Int.neg_mul ..
  have := div_at (N := -N) (W := W) (c := -(c + 1)) W0 (by omega) (by rw [show -(c + 1) + 1 = -c by omega]; omega)
  omega
theorem ceil_ge {N W c : Int} (W0 : 0 < W) (lo : c * W < N) : c + 1 ≤ -(-N / W) := by
  have e2 : (-c) * W = -(c * W) := Int.neg_mul ..
  have := Int.ediv_lt_of_lt_mul W0 (show -N < (-c) * W by omega)
  omega
theorem ceil_eq {N W c : Int} (W0 : 0 < W) (h : c * W = N) : -(-N / W) = c := by
  have e2 : (-c) * W = -(c * W) := Int.neg_mul ..
  have := div_at (N := -N) (W := W) (c := -c) W0 (by omega) (by rw [Int.add_mul, Int.one_mul]; omega)
  omega
theorem posN_bits {p l h num den e : Int} {a : Nat} (f : Fm p l h) (x : ExpAt p l h num den e) (hn : num.natAbs < 2 ^ a) (hd : den.natAbs < 2 ^ a) : (posN p l num den e).natAbs < 2 ^ (a + 1342) ∧ (posW den e).natAbs < 2 ^ (a + 1201) := by
  have l0 := f.l0
  have h1 := f.h1
  have e0 := x.lo
  have e1 := x.hi
  have Wb : (den * P2 e).natAbs < 2 ^ (a + 1201) := mul_pow hd (P2_bits e 1200 (by omega))
  have Nb : (num * P2 (-e)).natAbs < 2 ^ (a + 1201) := mul_pow hn (P2_bits (-e) 1200 (by omega))
  refine ⟨?_, Wb⟩
  refine add_pow (k := a + 1341) ?_ (Nat.lt_of_lt_of_le Nb (Nat.pow_le_pow_right (by decide) (by omega)))
  have := mul_pow (mul_pow (i := e - l) (k := 12) (l := 128) (by omega) (halfI_bits f.p1)) Wb
  exact Nat.lt_of_lt_of_le this (Nat.pow_le_pow_right (by decide) (by omega))


/-! ### decimals of numbers -/
/-- the due form of a decimal -/
def Plain (d q d' q' : Int) : Prop := (d = 0 ∧ d' = 0 ∧ q' = 0) ∨ (d ≠ 0 ∧ d' % 10 ≠ 0 ∧ ∃ k : Nat, d = d' * 10 ^ k ∧ q' = q + k)
theorem plain_aux {a b : Int} : ∀ {k l : Nat}, a % 10 ≠ 0 → a * 10 ^ k = b * 10 ^ l → l ≤ k
  | k, 0, _, _ => Nat.zero_le _
  | 0, l + 1, ha, e => by
    rw [Int.pow_zero, Int.mul_one, Int.pow_succ, ← Int.mul_assoc] at e
    exact absurd (by rw [e]; exact Int.mul_emod_left _ _) ha
  | k + 1, l + 1, ha, e => by
    have e2 : a * 10 ^ k = b * 10 ^ l := by
      rw [Int.pow_succ, Int.pow_succ, ← Int.mul_assoc, ← Int.mul_assoc] at e
      exact Int.eq_of_mul_eq_mul_right (by decide) e
    exact Nat.succ_le_succ (plain_aux ha e2)
theorem Plain.uniq {d q a b a' b' : Int} (h : Plain d q a b) (g : Plain d q a' b') : a = a' ∧ b = b' := by
  rcases h with ⟨z, rfl, rfl⟩ | ⟨z, m, k, e, f⟩
  · rcases g with ⟨_, rfl, rfl⟩ | ⟨z2, _⟩
    · exact ⟨rfl, rfl⟩
    · exact absurd z z2
  · rcases g with ⟨z2, _⟩ | ⟨_, m2, l, e2, f2⟩
    · exact absurd z2 z
    · have e3 : a * 10 ^ k = a' * 10 ^ l := e.symm.trans e2
      have h1 := plain_aux m e3
      have h2 := plain_aux m2 e3.symm
      obtain rfl : k = l := by omega
      refine ⟨Int.eq_of_mul_eq_mul_right (Int.ne_of_gt (Int.pow_pos (by decide))) e3, by omega⟩
theorem Plain.abs {d q a b : Int} (h : Plain d q a b) : a.natAbs ≤ d.natAbs := by
  rcases h with ⟨rfl, rfl, rfl⟩ | ⟨z, m, k, rfl, f⟩
  · exact Nat.le_refl _
  · rw [Int.natAbs_mul]
    exact Nat.le_mul_of_pos_right _ (Int.natAbs_pos.mpr (Int.ne_of_gt (Int.pow_pos (by decide))))
/-- the power rises by no more than there are digits -/
theorem Plain.pow {d q a b : Int} {n : Nat} (h : Plain d q a b) (hd : d.natAbs < 10 ^ n) : (d = 0 ∧ b = 0) ∨ (q ≤ b ∧ b < q + n) := by
  rcases h with ⟨rfl, rfl, rfl⟩ | ⟨z, m, k, rfl, f⟩
  · exact .inl ⟨rfl, rfl⟩
  · refine .inr ⟨by omega, ?_⟩
    have a0 : 1 ≤ a.natAbs := Int.natAbs_pos.mpr fun e => by rw [e] at m; exact m rfl
    rw [Int.natAbs_mul] at hd
    have h1 : (10 : Nat) ^ k < 10 ^ n := Nat.lt_of_le_of_lt (by
      have := Nat.mul_le_mul_right ((10 : Int) ^ k).natAbs a0
      rw [Nat.one_mul, Int.natAbs_pow] at this
      exact (show (10 : Nat) ^ k = (10 : Int).natAbs ^ k from rfl) ▸ (by rw [Int.natAbs_pow]; exact this)) hd
    have := (Nat.pow_lt_pow_iff_right (show 1 < 10 by decide)).mp h1
    omega
theorem Plain.step {d q : Int} (d0 : d ≠ 0) (h : d % 10 = 0) {a b : Int} (g : Plain (d / 10) (q + 1) a b) : Plain d q a b := by
  have e := Int.mul_ediv_add_emod d 10
  rcases g with ⟨z, _⟩ | ⟨z, m, k, e2, f⟩
  · omega
  · refine .inr ⟨d0, m, k + 1, ?_, by omega⟩
    rw [Int.pow_succ, ← Int.mul_assoc, ← e2]
    omega
/-- the nearest whole, a tie goes to the even one -/
def nearI (n d : Int) : Int := n / d + (if 2 * (n % d) > d ∨ (2 * (n % d) = d ∧ n / d % 2 = 1) then 1 else 0)
theorem nearI_one (n : Int) : nearI n 1 = n := by
  unfold nearI
  rw [Int.ediv_one, Int.emod_one, if_neg (by omega)]
  omega
theorem nearI_exact {n d : Int} (hd : 0 < d) (h : n % d = 0) : nearI n d = n / d := by
  unfold nearI
  rw [h, if_neg (by omega)]
  omega
theorem nearI_rng {n d : Int} (hn : 0 ≤ n) (hd : 0 < d) : 0 ≤ nearI n d ∧ nearI n d ≤ n + 1 := by
  unfold nearI
  have h1 : 0 ≤ n / d := Int.ediv_nonneg hn (by omega)
  have h2 : n / d ≤ n := Int.ediv_le_self _ hn
  split <;> omega
/-- the number as a decimal -/
def whM (m e : Int) : Int := if 0 ≤ e then m * P2 e else m * 5 ^ (-e).toNat
def whE (e : Int) : Int := if 0 ≤ e then 0 else e
abbrev whD (m e : Int) : D := .tup [.int (whM m e), .int (whE e)]
theorem ten_five (n : Nat) : (10 : Int) ^ n / 2 ^ n = 5 ^ n := by
  rw [show (10 : Int) = 5 * 2 from rfl, Int.mul_pow]
  exact Int.mul_ediv_cancel _ (Int.ne_of_gt (Int.pow_pos (by decide)))
theorem whM_nn {m e : Int} (h : 0 ≤ m) : 0 ≤ whM m e := by
  unfold whM
  split
  · exact Int.mul_nonneg h (Int.le_of_lt (P2_pos _))
  · exact Int.mul_nonneg h (Int.le_of_lt (Int.pow_pos (by decide)))
theorem whM_bits {m e : Int} (h : m.natAbs < 2 ^ 128) (h0 : -1200 ≤ e) (h1 : e ≤ 1200) : (whM m e).natAbs < 2 ^ 2928 ∧ (whM m e).natAbs < 10 ^ 880 := by
  have n1 : (2 : Nat) ^ 1200 ≤ 5 ^ 1200 := Nat.pow_le_pow_left (by decide) _
  have key : (whM m e).natAbs ≤ 2 ^ 128 * 5 ^ 1200 := by
    unfold whM
    split
    · rw [Int.natAbs_mul]
      refine Nat.mul_le_mul (Nat.le_of_lt h) (Nat.le_trans ?_ n1)
      unfold P2
      rw [Int.natAbs_pow]
      exact Nat.pow_le_pow_right (by decide) (by omega)
    · rw [Int.natAbs_mul]
      refine Nat.mul_le_mul (Nat.le_of_lt h) ?_
      rw [Int.natAbs_pow]
      exact Nat.pow_le_pow_right (by decide) (by omega)
  exact ⟨Nat.lt_of_le_of_lt key (by decide +kernel), Nat.lt_of_le_of_lt key (by decide +kernel)⟩
/-- what a text counts -/
def tlen (d : Int) : Nat := (Str.ofString (toString d)).length
theorem tlen_le {d : Int} {n : Nat} (h : d.natAbs < 10 ^ n) (h0 : 0 < n) : tlen d ≤ n + 1 := by
  unfold tlen
  rw [PySem.ofString_length]
  exact int_text_length_le10 h0 h
theorem P10_le {s : Int} {n : Nat} (h : s ≤ n) : (P10 s).natAbs ≤ 10 ^ n := by
  unfold P10
  rw [Int.natAbs_pow]
  exact Nat.pow_le_pow_right (by decide) (by omega)
theorem ten3700 : (10 : Nat) ^ 3700 < 2 ^ 12300 := by decide +kernel
theorem ten2600 : (10 : Nat) ^ 2600 < 2 ^ 8640 := by decide +kernel
theorem ten1300 : (10 : Nat) ^ 1300 < 2 ^ 4320 := by decide +kernel
theorem divOkX {i j : Int} (b : Nat) (h : 0 < j) (hb : i.natAbs < 2 ^ b) (h9 : b ≤ 13500) : DivOk i j := by
  refine ⟨h, ?_⟩
  unfold Builtin.divisionGoesByPylong
  have k : (if (i == 0) = true then 0 else i.natAbs.log2 / 30 + 1) ≤ 450 := by
    split
    · decide
    · next hz =>
      have z : i.natAbs ≠ 0 := fun e => hz (by rw [Int.natAbs_eq_zero.mp e]; rfl)
      have := (Nat.log2_lt z).mpr (Nat.lt_of_lt_of_le hb (Nat.pow_le_pow_right (by decide) h9))
      omega
  have key : ∀ x y : Nat, x ≤ 450 → (decide (y > 300) && decide (x > y + 150)) = false := fun x y h => by
    rw [Bool.and_eq_false_iff, decide_eq_false_iff_not, decide_eq_false_iff_not]
    omega
  exact key _ _ k
/-- the decimal's multiple of a power of ten -/
def fixN (w q place : Int) : Int := nearI (w * P10 (q - place)) (P10 (place - q))
theorem fixN_nn {w q place : Int} (h : 0 ≤ w) : 0 ≤ fixN w q place := (nearI_rng (Int.mul_nonneg h (Int.le_of_lt (P10_pos _))) (P10_pos _)).1
theorem fixN_up {w q place : Int} (h : q - place ≤ 1300) (hw : w.natAbs < 2 ^ 2928) : (w * P10 (q - place)).natAbs < 2 ^ 7248 :=
  mul_pow (k := 2928) (l := 4320) hw (Nat.lt_of_le_of_lt (P10_le (n := 1300) h) ten1300)
theorem fixN_bits {w q place : Int} (w0 : 0 ≤ w) (h : q - place ≤ 1300) (hw : w.natAbs < 2 ^ 2928) : (fixN w q place).natAbs < 2 ^ 7249 := by
  have a := fixN_up h hw
  have b := nearI_rng (d := P10 (place - q)) (Int.mul_nonneg w0 (Int.le_of_lt (P10_pos (q - place)))) (P10_pos _)
  have c : (2 : Nat) ^ 7249 = 2 ^ 7248 + 2 ^ 7248 := by rw [Nat.pow_succ, Nat.mul_two]
  have d : 1 ≤ (2 : Nat) ^ 7248 := Nat.pow_pos (by decide)
  unfold fixN
  rw [c]
  generalize (2 : Nat) ^ 7248 = T at *
  omega
theorem tlen_size {d : Int} (h : d.natAbs < 2 ^ 12900) : (Str.ofString (toString d)).length ≤ sizeLine := by
  rw [PySem.ofString_length, sizeLine_eq]
  have := int_text_length_le (k := 12900) (by decide) (log_of (decide_eq_true h))
  omega
theorem pt_bds {p l h c : Int} (f : Fm p l h) (c0 : 0 ≤ c) (c1 : c < cntI p l h) : -1200 ≤ ptE p l c ∧ ptE p l c ≤ 1200 ∧ 0 ≤ whM (ptM p c) (ptE p l c) ∧ (whM (ptM p c) (ptE p l c)).natAbs < 2 ^ 2928 ∧ tlen (whM (ptM p c) (ptE p l c)) ≤ 881 ∧ -1200 ≤ whE (ptE p l c) ∧ whE (ptE p l c) ≤ 0 := by
  have e1 := more_top f.lh c0 c1
  have e0 := (half_rng (p := p) c0).1
  have f0 := f.l0
  have f1 := f.h1
  have eb : -1200 ≤ ptE p l c ∧ ptE p l c ≤ 1200 := by unfold ptE; omega
  obtain ⟨g1, g2⟩ := whM_bits (ptM_bits f.p0 f.p1 c0) eb.1 eb.2
  exact ⟨eb.1, eb.2, whM_nn (half_rng c0).2.1, g1, tlen_le g2 (by decide), by unfold whE; split <;> omega, by unfold whE; split <;> omega⟩
abbrev rdPlace (w q dg : Int) : Int := (tlen w : Int) - 1 + q + 1 - dg
theorem ten880 : (10 : Nat) ^ 880 < 2 ^ 2928 := by decide +kernel
theorem big_of {i : Int} {k : Nat} (h : i.natAbs < 2 ^ k) (hk : k ≤ 12900) : i.natAbs < 2 ^ 12900 := Nat.lt_of_lt_of_le h (Nat.pow_le_pow_right (by decide) hk)
theorem sh_dq {d q : Int} (h : d.natAbs < 2 ^ 12900) (hq : q.natAbs < 1000000000) : Sh 1 25809 (.tup [.int d, .int q]) := sh_tupK (n := 0) (c := 12901) (k := 2) (Nat.le_refl _) fun e he => by
  simp only [List.mem_cons, List.not_mem_nil, or_false] at he
  rcases he with rfl | rfl
  · exact sh_big h
  · exact sh_small hq
theorem sh_two {n c : Nat} {d : D} (h : Sh n c d) : Sh (n + 1) (2 * (c + 2) + 2) (.lst [d, d]) := sh_lstK (n := n) (c := c) (k := 2) (Nat.le_refl _) fun e he => by
  simp only [List.mem_cons, List.not_mem_nil, or_false] at he
  rcases he with rfl | rfl <;> exact h
theorem near_dig : (2 : Nat) ^ 7249 < 10 ^ 2200 := by decide +kernel


/-! ### the decimals beside a code -/
theorem sh_id {e l : Int} (h : l - 1 ≤ e) : P2 e * P2 (1 - l) = P2 (e - l + 1) * (P2 (l - 1) * P2 (-e)) := by
  have s := P2_shift (l - 1) (e - l + 1).toNat
  rw [show l - 1 + ((e - l + 1).toNat : Int) = e by omega, show -(l - 1) = 1 - l by omega] at s
  exact s
theorem ten_two {e : Int} (h : e < 0) : P10 (-e) = 5 ^ (-e).toNat * P2 (-e) := by
  unfold P10 P2
  rw [show (10 : Int) = 5 * 2 from rfl, Int.mul_pow]
theorem wh_units {m e l : Int} (h : l - 1 ≤ e) : unA (whM m e * P10 (whE e)) l = m * P2 (e - l + 1) * unB (P10 (-(whE e))) l := by
  have s := sh_id h
  unfold unA unB whM whE
  by_cases z : 0 ≤ e
  · rw [if_pos z, if_pos z, P10_nn (Int.le_refl 0), P10_nn (show -(0 : Int) ≤ 0 by omega), Int.mul_one, Int.one_mul, Int.mul_assoc, s, P2_nn (show -e ≤ 0 by omega), Int.mul_one, Int.mul_assoc]
  · rw [if_neg z, if_neg z, P10_nn (show e ≤ 0 by omega), ten_two (by omega), Int.mul_one]
    rw [P2_nn (show e ≤ 0 by omega), Int.one_mul] at s
    rw [s]
    generalize (5 : Int) ^ (-e).toNat = x
    generalize P2 (-e) = y
    generalize P2 (l - 1) = w
    generalize P2 (e - l + 1) = g
    rw [Int.mul_assoc, Int.mul_assoc]
    congr 1
    rw [Int.mul_left_comm, Int.mul_comm w y, ← Int.mul_assoc x]
theorem wh_gap {e l : Int} (h : l - 1 ≤ e) : P2 (1 - l) ≤ P2 (e - l + 1) * unB (P10 (-(whE e))) l := by
  have s := sh_id h
  have p1 := P2_pos (1 - l)
  unfold unB whE
  by_cases z : 0 ≤ e
  · rw [if_pos z, P10_nn (show -(0 : Int) ≤ 0 by omega), Int.one_mul]
    rw [P2_nn (show -e ≤ 0 by omega), Int.mul_one] at s
    rw [← s]
    have := Int.mul_le_mul_of_nonneg_right (show 1 ≤ P2 e from P2_pos e) (Int.le_of_lt p1)
    rw [Int.one_mul] at this
    exact this
  · rw [if_neg z, ten_two (by omega)]
    rw [P2_nn (show e ≤ 0 by omega), Int.one_mul] at s
    rw [s]
    refine Int.mul_le_mul_of_nonneg_left ?_ (Int.le_of_lt (P2_pos _))
    rw [Int.mul_comm (P2 (l - 1))]
    refine Int.mul_le_mul_of_nonneg_right ?_ (Int.le_of_lt (P2_pos _))
    have := Int.mul_le_mul_of_nonneg_right (show (1 : Int) ≤ 5 ^ (-e).toNat from Int.pow_pos (by decide)) (Int.le_of_lt (P2_pos (-e)))
    rw [Int.one_mul] at this
    exact this
/-- ten times finer -/
theorem un_ten {d q l k : Int} (hq : q ≤ 0) : unA ((10 * d + k) * P10 (q - 1)) l = 10 * unA (d * P10 q) l + k * P2 (1 - l) ∧ unB (P10 (-(q - 1))) l = 10 * unB (P10 (-q)) l := by
  constructor
  · unfold unA
    rw [P10_nn (show q - 1 ≤ 0 by omega), P10_nn hq, Int.mul_one, Int.mul_one, Int.add_mul, Int.mul_assoc]
  · unfold unB P10
    rw [show (-(q - 1)).toNat = (-q).toNat + 1 by omega, Int.pow_succ, Int.mul_comm _ (10 : Int), Int.mul_assoc]
/-- a decimal beside a code -/
def Beside (p l h code d q : Int) : Prop := 0 ≤ d ∧ q.natAbs ≤ 1300 ∧ d.natAbs < 2 ^ 3100 ∧ ∃ c, FlAt p l h (unA (d * P10 q) l) (unB (P10 (-q)) l) c ∧ (d = 0 ∨ code = c ∨ (code = c + 1 ∧ code < cntI p l h))
theorem fl_of {p l h A B c δ : Int} (c0 : 0 ≤ c) (c1 : c < cntI p l h) (e : A = uV p c * B + δ) (d0 : 0 ≤ δ) (d1 : δ < P2 (moreI p c + 1) * B) : FlAt p l h A B c := by
  refine ⟨c0, c1, by omega, fun _ => ?_⟩
  rw [uV_lt c0, Int.add_mul]
  omega
theorem P2_mono {s t : Int} (h : s ≤ t) : P2 s ≤ P2 t := by
  have := Nat.pow_le_pow_right (show 0 < 2 by decide) (show s.toNat ≤ t.toNat by omega)
  have e1 : ((2 ^ s.toNat : Nat) : Int) = 2 ^ s.toNat := by rw [Int.natCast_pow]; rfl
  have e2 : ((2 ^ t.toNat : Nat) : Int) = 2 ^ t.toNat := by rw [Int.natCast_pow]; rfl
  unfold P2
  omega
theorem fl_zero {p l h q : Int} (f : Fm p l h) : ∃ c, FlAt p l h (unA (0 * P10 q) l) (unB (P10 (-q)) l) c := fl_exists f (by unfold unA; rw [Int.zero_mul, Int.zero_mul]; exact Int.le_refl _)
/-- the code's own decimal, and those just beside it -/
theorem own_dec {p l h c : Int} (f : Fm p l h) (c0 : 0 ≤ c) (c1 : c < cntI p l h) (w z : Int) (hw : w = whM (ptM p c) (ptE p l c)) (hz : z = whE (ptE p l c)) :
    FlAt p l h (unA (w * P10 z) l) (unB (P10 (-z)) l) c ∧ FlAt p l h (unA ((10 * w + 1) * P10 (z - 1)) l) (unB (P10 (-(z - 1))) l) c ∧ FlAt p l h (unA (100 * w * P10 (z - 2)) l) (unB (P10 (-(z - 2))) l) c
    ∧ (0 < c → FlAt p l h (unA ((10 * w - 1) * P10 (z - 1)) l) (unB (P10 (-(z - 1))) l) (c - 1)) := by
  have e1 := more_top f.lh c0 c1
  have e0 := (half_rng (p := p) c0).1
  have le : l - 1 ≤ ptE p l c := by unfold ptE; omega
  have u := wh_units (m := ptM p c) le
  have g := wh_gap le
  rw [← hw, ← hz, show ptE p l c - l + 1 = moreI p c + 1 by unfold ptE; omega, show ptM p c * P2 (moreI p c + 1) = uV p c from rfl] at u
  rw [← hz, show ptE p l c - l + 1 = moreI p c + 1 by unfold ptE; omega] at g
  have z0 : z ≤ 0 := by rw [hz]; unfold whE; split <;> omega
  have B0 : 0 < unB (P10 (-z)) l := Int.mul_pos (P10_pos _) (P2_pos _)
  have t1 := P2_pos (1 - l)
  have tg := P2_pos (moreI p c + 1)
  obtain ⟨a1, b1⟩ := un_ten (d := w) (l := l) (k := 1) z0
  obtain ⟨a2, b2⟩ := un_ten (d := w) (l := l) (k := -1) z0
  obtain ⟨a3, b3⟩ := un_ten (d := w) (l := l) (k := 0) z0
  obtain ⟨a4, b4⟩ := un_ten (d := 10 * w) (l := l) (k := 0) (show z - 1 ≤ 0 by omega)
  rw [Int.add_zero, Int.zero_mul, Int.add_zero] at a3 a4
  rw [show 10 * (10 * w) = 100 * w by omega, show z - 1 - 1 = z - 2 by omega, a3] at a4
  rw [show z - 1 - 1 = z - 2 by omega, b3] at b4
  rw [show 10 * w + -1 = 10 * w - 1 by omega] at a2
  rw [a1, b1, a4, b4, a2, u]
  have gB := Int.mul_pos tg B0
  have sc : ∀ x k : Int, x * (k * unB (P10 (-z)) l) = k * (x * unB (P10 (-z)) l) := fun x k => Int.mul_left_comm ..
  have sd : ∀ x : Int, x * (10 * (10 * unB (P10 (-z)) l)) = 100 * (x * unB (P10 (-z)) l) := fun x => by
    rw [Int.mul_left_comm x, sc x 10]
    omega
  refine ⟨fl_of (δ := 0) c0 c1 (by omega) (Int.le_refl _) gB, fl_of (δ := P2 (1 - l)) c0 c1 (by rw [sc (uV p c) 10]; omega) (by omega) (by rw [sc (P2 _) 10]; omega), fl_of (δ := 0) c0 c1 (by rw [sd (uV p c)]; omega) (Int.le_refl _) (by rw [sd (P2 _)]; omega), fun cp => ?_⟩
  have cm : 0 ≤ c - 1 := by omega
  have d1 := uV_lt (p := p) cm
  have d2 := more_le (p := p) cm
  rw [show c - 1 + 1 = c by omega] at d1 d2
  have d3 : P2 (moreI p c + 1) ≤ 2 * P2 (moreI p (c - 1) + 1) := by
    rw [← P2_succ (show 0 ≤ moreI p (c - 1) + 1 by have := (half_rng (p := p) cm).1; omega)]
    exact P2_mono (by omega)
  have d4 := Int.mul_le_mul_of_nonneg_right d3 (Int.le_of_lt B0)
  rw [Int.mul_assoc] at d4
  refine fl_of (δ := P2 (moreI p (c - 1) + 1) * (10 * unB (P10 (-z)) l) - P2 (1 - l)) cm (by omega) ?_ (by rw [sc (P2 _) 10]; omega) (by omega)
  rw [sc (uV p (c - 1)) 10, sc (P2 _) 10, d1, Int.add_mul]
  omega
/-- the decimal amid two codes, and those just beside it -/
theorem mid_dec {p l h c : Int} (f : Fm p l h) (c0 : 0 ≤ c) (c1 : c < cntI p l h) (w z : Int) (hw : w = whM (2 * ptM p c + 1) (ptE p l c - 1)) (hz : z = whE (ptE p l c - 1)) :
    FlAt p l h (unA (w * P10 z) l) (unB (P10 (-z)) l) c ∧ FlAt p l h (unA ((10 * w + 1) * P10 (z - 1)) l) (unB (P10 (-(z - 1))) l) c ∧ FlAt p l h (unA (100 * w * P10 (z - 2)) l) (unB (P10 (-(z - 2))) l) c
    ∧ FlAt p l h (unA ((10 * w - 1) * P10 (z - 1)) l) (unB (P10 (-(z - 1))) l) c := by
  have e1 := more_top f.lh c0 c1
  have e0 := (half_rng (p := p) c0).1
  have le : l - 1 ≤ ptE p l c - 1 := by unfold ptE; omega
  have u := wh_units (m := 2 * ptM p c + 1) le
  have g := wh_gap le
  have tw := P2_succ e0
  rw [← hw, ← hz, show ptE p l c - 1 - l + 1 = moreI p c by unfold ptE; omega] at u
  rw [← hz, show ptE p l c - 1 - l + 1 = moreI p c by unfold ptE; omega] at g
  have u : unA (w * P10 z) l = uV p c * unB (P10 (-z)) l + P2 (moreI p c) * unB (P10 (-z)) l := by
    rw [u]
    unfold uV
    rw [tw, ← Int.add_mul]
    congr 1
    rw [Int.add_mul, Int.one_mul, Int.mul_left_comm, Int.mul_assoc]
  have z0 : z ≤ 0 := by rw [hz]; unfold whE; split <;> omega
  have B0 : 0 < unB (P10 (-z)) l := Int.mul_pos (P10_pos _) (P2_pos _)
  have t1 := P2_pos (1 - l)
  have tg := P2_pos (moreI p c)
  obtain ⟨a1, b1⟩ := un_ten (d := w) (l := l) (k := 1) z0
  obtain ⟨a2, b2⟩ := un_ten (d := w) (l := l) (k := -1) z0
  obtain ⟨a3, b3⟩ := un_ten (d := w) (l := l) (k := 0) z0
  obtain ⟨a4, b4⟩ := un_ten (d := 10 * w) (l := l) (k := 0) (show z - 1 ≤ 0 by omega)
  rw [Int.add_zero, Int.zero_mul, Int.add_zero] at a3 a4
  rw [show 10 * (10 * w) = 100 * w by omega, show z - 1 - 1 = z - 2 by omega, a3] at a4
  rw [show z - 1 - 1 = z - 2 by omega, b3] at b4
  rw [show 10 * w + -1 = 10 * w - 1 by omega] at a2
  rw [a1, b1, a4, b4, a2, u]
  have gB := Int.mul_pos tg B0
  have hB : P2 (moreI p c + 1) * unB (P10 (-z)) l = 2 * (P2 (moreI p c) * unB (P10 (-z)) l) := by rw [tw, Int.mul_assoc]
  have sc : ∀ x k : Int, x * (k * unB (P10 (-z)) l) = k * (x * unB (P10 (-z)) l) := fun x k => Int.mul_left_comm ..
  have sd : ∀ x : Int, x * (10 * (10 * unB (P10 (-z)) l)) = 100 * (x * unB (P10 (-z)) l) := fun x => by
    rw [Int.mul_left_comm x, sc x 10]
    omega
  refine ⟨fl_of (δ := P2 (moreI p c) * unB (P10 (-z)) l) c0 c1 rfl (Int.le_of_lt gB) (by omega), fl_of (δ := 10 * (P2 (moreI p c) * unB (P10 (-z)) l) + P2 (1 - l)) c0 c1 (by rw [sc (uV p c) 10]; omega) (by omega) (by rw [sc (P2 _) 10]; omega), fl_of (δ := 100 * (P2 (moreI p c) * unB (P10 (-z)) l)) c0 c1 (by rw [sd (uV p c)]; omega) (by omega) (by rw [sd (P2 _)]; omega), fl_of (δ := 10 * (P2 (moreI p c) * unB (P10 (-z)) l) - P2 (1 - l)) c0 c1 (by rw [sc (uV p c) 10]; omega) (by omega) (by rw [sc (P2 _) 10]; omega)⟩


/-! ### the code of a value -/
theorem uV_mono {p : Int} : ∀ (k : Nat) {c : Int}, 0 ≤ c → uV p c + k ≤ uV p (c + k)
  | 0, c, h => by rw [Int.natCast_zero, Int.add_zero, Int.add_zero]; exact Int.le_refl _
  | k + 1, c, h => by
    have a := uV_mono (p := p) k h
    have b := uV_lt (p := p) (show 0 ≤ c + k by omega)
    have g := P2_pos (moreI p (c + k) + 1)
    rw [show c + ((k + 1 : Nat) : Int) = c + k + 1 by omega, b]
    omega
theorem uV_le {p a b : Int} (h : 0 ≤ a) (g : a ≤ b) : uV p a ≤ uV p b := by
  have := uV_mono (p := p) (b - a).toNat h
  rw [show a + ((b - a).toNat : Int) = b by omega] at this
  omega
theorem uV_ne {p a b : Int} (h : 0 ≤ a) (g : a < b) : uV p a < uV p b := by
  have := uV_mono (p := p) (b - a).toNat h
  rw [show a + ((b - a).toNat : Int) = b by omega] at this
  omega
theorem FlAt.uniq {p l h A B c c' : Int} (B0 : 0 < B) (x : FlAt p l h A B c) (y : FlAt p l h A B c') : c = c' := by
  have key : ∀ {c c' : Int}, FlAt p l h A B c → FlAt p l h A B c' → ¬ c < c' := fun {c c'} x y g => by
    have up := x.up (by have := y.c1; omega)
    have a := Int.mul_le_mul_of_nonneg_right (uV_le (p := p) (show 0 ≤ c + 1 by have := x.c0; omega) (show c + 1 ≤ c' by omega)) (Int.le_of_lt B0)
    have lo := y.lo
    omega
  have a := key x y
  have b := key y x
  omega
theorem P2_sum {a b : Int} (ha : 0 ≤ a) (hb : 0 ≤ b) : P2 (a + b) = P2 a * P2 b := by
  unfold P2
  rw [← Int.pow_add]
  congr 1
  omega
theorem P2_cmp {a b : Nat} {x : Int} (h : a + x ≤ b) : 2 ^ a * P2 x ≤ 2 ^ b * P2 (-x) := by
  unfold P2
  rw [← Int.pow_add, ← Int.pow_add]
  have := Nat.pow_le_pow_right (show 0 < 2 by decide) (show a + x.toNat ≤ b + (-x).toNat by omega)
  have e1 : ∀ n : Nat, ((2 ^ n : Nat) : Int) = 2 ^ n := fun n => by rw [Int.natCast_pow]; rfl
  rw [← e1, ← e1]
  omega
/-- w * 2 ^ e is the value of the code c -/
def IsC (p l w e c : Int) : Prop := w * P2 (e - ptE p l c) = ptM p c * P2 (ptE p l c - e)
theorem two_scales {w m s a : Int} (ha : 0 ≤ a) : w * P2 (s - a) = m * P2 (a - s) ↔ w * P2 s = m * P2 a * P2 (-s) := by
  have pa := P2_pos a
  by_cases h : a ≤ s
  · rw [P2_nn (show a - s ≤ 0 by omega), P2_nn (show -s ≤ 0 by omega), Int.mul_one, Int.mul_one, show P2 s = P2 (s - a) * P2 a by rw [← P2_sum (by omega) ha]; congr 1; omega, ← Int.mul_assoc]
    exact ⟨fun e => by rw [e], fun e => Int.eq_of_mul_eq_mul_right (by omega) e⟩
  · by_cases g : 0 ≤ s
    · have ps := P2_pos s
      rw [P2_nn (show s - a ≤ 0 by omega), P2_nn (show -s ≤ 0 by omega), Int.mul_one, Int.mul_one, show P2 a = P2 (a - s) * P2 s by rw [← P2_sum (by omega) g]; congr 1; omega, ← Int.mul_assoc]
      exact ⟨fun e => by rw [e], fun e => Int.eq_of_mul_eq_mul_right (by omega) e⟩
    · rw [P2_nn (show s - a ≤ 0 by omega), P2_nn (show s ≤ 0 by omega), Int.mul_one, show a - s = a + -s by omega, P2_sum ha (by omega), Int.mul_assoc]
theorem isC_V {p l w e c : Int} (c0 : 0 ≤ c) : IsC p l w e c ↔ w * P2 (e - l + 1) = uV p c * P2 (l - 1 - e) := by
  have g := (half_rng (p := p) c0).1
  have := two_scales (w := w) (m := ptM p c) (s := e - l + 1) (a := moreI p c + 1) (by omega)
  rw [show e - l + 1 - (moreI p c + 1) = e - ptE p l c by unfold ptE; omega, show moreI p c + 1 - (e - l + 1) = ptE p l c - e by unfold ptE; omega, show -(e - l + 1) = l - 1 - e by omega] at this
  exact this
def CodeIs (p l h w e : Int) : D → Prop
  | .non => ∀ c, 0 ≤ c → c < cntI p l h → ¬ IsC p l w e c
  | .int c => 0 ≤ c ∧ c < cntI p l h ∧ IsC p l w e c
  | _ => False
theorem isC_one {p l w e c c' : Int} (c0 : 0 ≤ c) (c0' : 0 ≤ c') (h : IsC p l w e c) (g : IsC p l w e c') : c = c' := by
  rw [isC_V c0] at h
  rw [isC_V c0'] at g
  have e := Int.eq_of_mul_eq_mul_right (Int.ne_of_gt (P2_pos _)) (h.symm.trans g)
  have key : ∀ {a b : Int}, 0 ≤ a → uV p a = uV p b → ¬ a < b := fun {a b} a0 e l => by
    have := uV_ne (p := p) a0 l
    omega
  have a := key c0 e
  have b := key c0' e.symm
  omega
theorem code_int {p l h w e c : Int} {d : D} (c0 : 0 ≤ c) (c1 : c < cntI p l h) (i : IsC p l w e c) (x : CodeIs p l h w e d) : d = .int c := by
  cases d <;> try exact x.elim
  · exact absurd i (x c c0 c1)
  · obtain ⟨x0, x1, x⟩ := x
    rw [isC_one x0 c0 x i]
theorem code_non {p l h w e c : Int} {d : D} (y : FlAt p l h (w * P2 (e - l + 1)) (P2 (l - 1 - e)) c) (n : w * P2 (e - l + 1) ≠ uV p c * P2 (l - 1 - e)) (x : CodeIs p l h w e d) : d = .non := by
  cases d <;> try exact x.elim
  · rfl
  · exfalso
    obtain ⟨x0, x1, x⟩ := x
    rw [isC_V x0] at x
    have B0 := P2_pos (l - 1 - e)
    have z : FlAt p l h (w * P2 (e - l + 1)) (P2 (l - 1 - e)) _ := ⟨x0, x1, Int.le_of_eq x.symm, fun g => by
      rw [x]
      exact Int.mul_lt_mul_of_pos_right (uV_ne x0 (by omega)) B0⟩
    have := y.uniq B0 z
    subst this
    exact n x
theorem pt_zero {p : Int} : ptM p 0 = 0 ∧ moreI p 0 = 0 := by
  have e : moreI p 0 = 0 := by
    unfold moreI
    rw [Int.zero_ediv, if_neg (by decide)]
  refine ⟨?_, e⟩
  unfold ptM
  rw [e, Int.zero_mul]
  rfl
theorem pt_of {p g f : Int} (g0 : 0 ≤ g) (f0 : 0 ≤ f) (f1 : f < 2 * halfI p) (h : g = 0 ∨ halfI p ≤ f) : moreI p (g * halfI p + f) = g ∧ ptM p (g * halfI p + f) = f := by
  have hp := halfI_pos p
  have e : (g * halfI p + f) / halfI p = g + f / halfI p := by rw [Int.add_comm, Int.add_mul_ediv_right _ _ (by omega), Int.add_comm]
  have m : moreI p (g * halfI p + f) = g := by
    unfold moreI
    rw [e]
    by_cases z : f < halfI p
    · rw [Int.ediv_eq_zero_of_lt f0 z]
      split <;> omega
    · have : f / halfI p = 1 := by
        have a := (Int.le_ediv_iff_mul_le hp).mpr (show 1 * halfI p ≤ f by omega)
        have b := Int.ediv_lt_of_lt_mul hp f1
        omega
      rw [this]
      split <;> omega
  refine ⟨m, ?_⟩
  unfold ptM
  rw [m]
  omega
/-- values near a code's -/
theorem near_code {p l h c x : Int} {k : Nat} {d : D} (c0 : 0 ≤ c) (c1 : c < cntI p l h) (x0 : 0 ≤ x) (x1 : x < 2 ^ k) (i : CodeIs p l h (ptM p c * 2 ^ k + x) (ptE p l c - k) d) : d = if x = 0 then .int c else .non := by
  by_cases z : x = 0
  · rw [if_pos z]
    refine code_int c0 c1 ?_ i
    unfold IsC
    rw [z, Int.add_zero, P2_nn (show ptE p l c - k - ptE p l c ≤ 0 by omega), Int.mul_one, show ptE p l c - (ptE p l c - k) = (k : Int) by omega, P2_ofNat]
  · rw [if_neg z]
    have e0 := (half_rng (p := p) c0).1
    rw [show ptE p l c - k = l + moreI p c - k from rfl] at i
    have B0 := P2_pos (l - 1 - (l + moreI p c - k))
    -- s is the exponent in the law's units
    obtain ⟨s, hs, s1⟩ : ∃ s : Int, s = moreI p c + 1 ∧ 1 ≤ s := ⟨_, rfl, by omega⟩
    have key : (ptM p c * 2 ^ k + x) * P2 (l + moreI p c - k - l + 1) = uV p c * P2 (l - 1 - (l + moreI p c - k)) + x * P2 (s - k) ∧ x * P2 (s - k) < P2 s * P2 (l - 1 - (l + moreI p c - k)) ∧ 0 < x * P2 (s - k) := by
      unfold uV
      rw [← hs, show l + moreI p c - k - l + 1 = s - k by omega, show l - 1 - (l + moreI p c - k) = k - s by omega]
      have ek : (2 : Int) ^ k * P2 (s - k) = P2 s * P2 (k - s) := by
        unfold P2
        rw [← Int.pow_add, ← Int.pow_add]
        congr 1
        omega
      refine ⟨?_, ?_, Int.mul_pos (by omega) (P2_pos _)⟩
      · rw [Int.add_mul, Int.mul_assoc, ek, Int.mul_assoc]
      · rw [← ek]
        exact Int.mul_lt_mul_of_pos_right x1 (P2_pos _)
    obtain ⟨k1, k2, k3⟩ := key
    exact code_non (fl_of c0 c1 k1 (by omega) (by rw [← hs]; exact k2)) (by omega) i
theorem isC_shift {p l w e c : Int} {k : Nat} (c0 : 0 ≤ c) : IsC p l w e c ↔ IsC p l (w * 2 ^ k) (e - k) c := by
  rw [isC_V c0, isC_V c0]
  have ek : P2 (e - l + 1) * P2 (l - 1 - (e - k)) = 2 ^ k * P2 (e - k - l + 1) * P2 (l - 1 - e) := by
    unfold P2
    rw [← Int.pow_add, ← Int.pow_add, ← Int.pow_add]
    congr 1
    omega
  have p1 := P2_pos (l - 1 - e)
  have p2 := P2_pos (l - 1 - (e - k))
  have e3 : w * 2 ^ k * P2 (e - k - l + 1) * P2 (l - 1 - e) = w * P2 (e - l + 1) * P2 (l - 1 - (e - k)) := by
    rw [Int.mul_assoc w (P2 _), ek, Int.mul_assoc w, Int.mul_assoc w]
  constructor
  · intro h
    refine Int.eq_of_mul_eq_mul_right (show P2 (l - 1 - e) ≠ 0 by omega) ?_
    rw [e3, h, Int.mul_right_comm]
  · intro h
    refine Int.eq_of_mul_eq_mul_right (show P2 (l - 1 - (e - k)) ≠ 0 by omega) ?_
    rw [← e3, h, Int.mul_right_comm]
/-- the greatest number lies below 2 ^ (p + h) -/
theorem top_lt {p l h c : Int} (f : Fm p l h) (c0 : 0 ≤ c) (c1 : c < cntI p l h) : uV p c < P2 p * P2 (h - l + 1) := by
  obtain ⟨a, b, d⟩ := half_rng (p := p) c0
  have e := more_top f.lh c0 c1
  have lh := f.lh
  have p0 := f.p0
  have := P2_mono (show moreI p c + 1 ≤ h - l + 1 by omega)
  have e2 : P2 p = 2 * halfI p := halfI_two p0
  unfold uV
  rw [e2]
  have t := P2_pos (moreI p c + 1)
  have hp := halfI_pos p
  exact Int.lt_of_lt_of_le (Int.mul_lt_mul_of_pos_right d t) (Int.mul_le_mul_of_nonneg_left this (by omega))
theorem over_code {p l h w e : Int} {d : D} (f : Fm p l h) (he : l ≤ e) (w0 : P2 p * P2 (h - l + 1) ≤ w * P2 (e - l + 1)) (i : CodeIs p l h w e d) : d = .non := by
  have cp := cnt_pos f
  have c0 : 0 ≤ cntI p l h - 1 := by omega
  have := top_lt f c0 (show cntI p l h - 1 < cntI p l h by omega)
  have b : P2 (l - 1 - e) = 1 := P2_nn (by omega)
  refine code_non (c := cntI p l h - 1) ⟨c0, by omega, ?_, fun g => by omega⟩ ?_ i
  · rw [b]; omega
  · rw [b]; omega
theorem isC_zero {p l e : Int} : IsC p l 0 e 0 := by
  unfold IsC
  rw [pt_zero.1, Int.zero_mul, Int.zero_mul]
/-- bits -/
theorem bits_of {w : Int} (h : 0 < w) : ∃ b : Nat, (Builtin.Int.intBits w : Nat) = b + 1 ∧ (2 : Int) ^ b ≤ w ∧ w < 2 ^ (b + 1) := by
  have n0 : w.natAbs ≠ 0 := by omega
  refine ⟨w.natAbs.log2, ?_, ?_, ?_⟩
  · unfold Builtin.Int.intBits
    rw [if_neg]
    intro z
    simp at z
    omega
  · have := Nat.log2_self_le n0
    have e1 : ((2 ^ w.natAbs.log2 : Nat) : Int) = 2 ^ w.natAbs.log2 := by rw [Int.natCast_pow]; rfl
    omega
  · have := (Nat.log2_lt n0).mp (Nat.lt_succ_self _)
    have e1 : ((2 ^ (w.natAbs.log2 + 1) : Nat) : Int) = 2 ^ (w.natAbs.log2 + 1) := by rw [Int.natCast_pow]; rfl
    omega
/-- where the exponent lies -/
theorem isC_exp {p l h w e c : Int} {b : Nat} (f : Fm p l h) (w0 : 0 < w) (b1 : (2 : Int) ^ b ≤ w) (b2 : w < 2 ^ (b + 1)) (c0 : 0 ≤ c) (i : IsC p l w e c) : ptE p l c = if e + (b + 1 : Nat) - p > l then e + (b + 1 : Nat) - p else l := by
  obtain ⟨g0, m0, m1⟩ := half_rng (p := p) c0
  have p0 := f.p0
  unfold IsC at i
  have le : l ≤ ptE p l c := by unfold ptE; omega
  have t1 := P2_pos (e - ptE p l c)
  have t2 := P2_pos (ptE p l c - e)
  have hE : (2 : Int) * halfI p = 2 ^ p.toNat := (halfI_two p0).symm
  have up : e + (b + 1 : Nat) - p ≤ ptE p l c := by
    refine Decidable.byContradiction fun z => ?_
    have a := P2_cmp (a := p.toNat) (b := b) (x := ptE p l c - e) (by omega)
    rw [show -(ptE p l c - e) = e - ptE p l c by omega] at a
    have a2 := Int.mul_le_mul_of_nonneg_right b1 (Int.le_of_lt t1)
    have a3 := Int.mul_lt_mul_of_pos_right m1 t2
    rw [hE] at a3
    omega
  by_cases z : ptE p l c = l
  · rw [z] at up ⊢
    split <;> omega
  · have lo : ptE p l c ≤ e + (b + 1 : Nat) - p := by
      have hm := more_lo c0 (show 0 < moreI p c by unfold ptE at z; omega)
      refine Decidable.byContradiction fun z => ?_
      have a := P2_cmp (a := b + 1) (b := (p - 1).toNat) (x := e - ptE p l c) (by omega)
      rw [show -(e - ptE p l c) = ptE p l c - e by omega] at a
      have a2 := Int.mul_lt_mul_of_pos_right b2 t1
      have a3 := Int.mul_le_mul_of_nonneg_right hm (Int.le_of_lt t2)
      unfold halfI at a3
      omega
    split <;> omega
/-- what is found is a code -/
theorem isC_of {p l h w e E g : Int} {b : Nat} (f : Fm p l h) (b1 : (2 : Int) ^ b ≤ w) (b2 : w < 2 ^ (b + 1)) (hE : E = if e + (b + 1 : Nat) - p > l then e + (b + 1 : Nat) - p else l) (Eh : E ≤ h) (hg : w * P2 (e - E) = g * P2 (E - e)) : 0 ≤ (E - l) * halfI p + g ∧ (E - l) * halfI p + g < cntI p l h ∧ IsC p l w e ((E - l) * halfI p + g) := by
  have p0 := f.p0
  have hp := halfI_pos p
  have t1 := P2_pos (e - E)
  have t2 := P2_pos (E - e)
  have e2 : (2 : Int) * halfI p = 2 ^ p.toNat := (halfI_two p0).symm
  have w1 : (0 : Int) < 2 ^ b := Int.pow_pos (by decide)
  have le : l ≤ E := by rw [hE]; split <;> omega
  have g0 : 0 ≤ g := by
    refine Decidable.byContradiction fun z => ?_
    have a := Int.mul_pos (show 0 < w by omega) t1
    have b := Int.mul_neg_of_neg_of_pos (show g < 0 by omega) t2
    omega
  have g1 : g < 2 * halfI p := by
    rw [e2]
    have a := P2_cmp (a := b + 1) (b := p.toNat) (x := e - E) (by rw [hE]; split <;> omega)
    rw [show -(e - E) = E - e by omega] at a
    have a2 := Int.mul_lt_mul_of_pos_right b2 t1
    exact Int.lt_of_mul_lt_mul_right (show g * P2 (E - e) < 2 ^ p.toNat * P2 (E - e) by omega) (Int.le_of_lt t2)
  have g2 : E - l = 0 ∨ halfI p ≤ g := by
    by_cases z : E = l
    · exact .inl (by omega)
    · refine .inr ?_
      have a := P2_cmp (a := (p - 1).toNat) (b := b) (x := E - e) (by rw [hE]; rw [hE] at z; split at z <;> split <;> omega)
      rw [show -(E - e) = e - E by omega] at a
      have a2 := Int.mul_le_mul_of_nonneg_right b1 (Int.le_of_lt t1)
      unfold halfI
      exact Int.le_of_mul_le_mul_right (show 2 ^ (p - 1).toNat * P2 (E - e) ≤ g * P2 (E - e) by omega) t2
  obtain ⟨m, q⟩ := pt_of (p := p) (show 0 ≤ E - l by omega) g0 g1 g2
  have c0 : 0 ≤ (E - l) * halfI p := Int.mul_nonneg (by omega) (by omega)
  refine ⟨by omega, ?_, ?_⟩
  · have := Int.mul_le_mul_of_nonneg_right (show E - l ≤ h - l by omega) (Int.le_of_lt hp)
    unfold cntI
    rw [Int.add_mul]
    omega
  · unfold IsC ptE
    rw [m, q, show l + (E - l) = E by omega]
    exact hg


/-! ### Euclid -/
theorem gcd_end {u : Int} (h : 0 ≤ u) : ((Int.gcd u 0 : Nat) : Int) = u := by
  unfold Int.gcd
  rw [Int.natAbs_zero, Nat.gcd_zero_right]
  omega
theorem gcd_turn {u v : Int} (h : 0 ≤ u) (g : 0 ≤ v) : Int.gcd v (u % v) = Int.gcd u v := by
  obtain ⟨a, rfl⟩ := Int.eq_ofNat_of_zero_le h
  obtain ⟨b, rfl⟩ := Int.eq_ofNat_of_zero_le g
  unfold Int.gcd
  show Nat.gcd b (a % b) = Nat.gcd a b
  rw [Nat.gcd_comm a b, Nat.gcd_rec b a, Nat.gcd_comm]
theorem gcd_pos {x y : Int} (h : 0 < y) : (0 : Int) < (Int.gcd x y : Nat) := by
  have : 0 < Int.gcd x y := Int.gcd_pos_of_ne_zero_right _ (by omega)
  omega


/-! ### positions in lowest terms -/
def lowPair (N W : Int) : D := .tup [.int (N / (Int.gcd N W : Nat)), .int (W / (Int.gcd N W : Nat))]
abbrev lowD (p l n d e : Int) : D := .tup [.int (posN p l n d e / (Int.gcd (posN p l n d e) (posW d e) : Nat)), .int (posW d e / (Int.gcd (posN p l n d e) (posW d e) : Nat))]
theorem posN_nn {p l h n d e : Int} (f : Fm p l h) (x : ExpAt p l h n d e) (n0 : 0 ≤ n) (d0 : 0 < d) : 0 ≤ posN p l n d e := by
  have := x.lo
  have h1 : 0 ≤ (e - l) * halfI p := Int.mul_nonneg (by omega) (Int.le_of_lt (halfI_pos p))
  have h2 : 0 ≤ d * P2 e := Int.mul_nonneg (by omega) (Int.le_of_lt (P2_pos e))
  have h3 : 0 ≤ n * P2 (-e) := Int.mul_nonneg n0 (Int.le_of_lt (P2_pos _))
  have := Int.mul_nonneg h1 h2
  unfold posN
  omega
theorem max_P2 (s : Int) : (2 : Int) ^ (if s > 0 then s else 0).toNat = P2 s := by
  unfold P2
  congr 1
  split <;> omega


/-! ### positions rise evenly -/
theorem gcd_scale {x y k : Int} (k0 : 0 ≤ k) : ((Int.gcd (x * k) (y * k) : Nat) : Int) = (Int.gcd x y : Nat) * k := by
  obtain ⟨n, rfl⟩ := Int.eq_ofNat_of_zero_le k0
  unfold Int.gcd
  rw [Int.natAbs_mul, Int.natAbs_mul, Int.natAbs_natCast, Nat.gcd_mul_right]
  exact Int.natCast_mul _ _
/-- equal fractions have equal lowest terms -/
theorem low_same {N W N' W' : Int} (W0 : 0 < W) (W1 : 0 < W') (h : N * W' = N' * W) : N / (Int.gcd N W : Nat) = N' / (Int.gcd N' W' : Nat) ∧ W / (Int.gcd N W : Nat) = W' / (Int.gcd N' W' : Nat) := by
  have g0 := gcd_pos (x := N) W0
  have g1 := gcd_pos (x := N') W1
  have e := gcd_scale (x := N) (y := W) (k := W') (Int.le_of_lt W1)
  have e2 := gcd_scale (x := N') (y := W') (k := W) (Int.le_of_lt W0)
  rw [h, Int.mul_comm W W'] at e
  rw [e] at e2
  obtain ⟨n, hn⟩ := Int.gcd_dvd_left (a := N) (b := W)
  obtain ⟨w, hw⟩ := Int.gcd_dvd_right (a := N) (b := W)
  obtain ⟨n', hn'⟩ := Int.gcd_dvd_left (a := N') (b := W')
  obtain ⟨w', hw'⟩ := Int.gcd_dvd_right (a := N') (b := W')
  generalize ((Int.gcd N W : Nat) : Int) = g at *
  generalize ((Int.gcd N' W' : Nat) : Int) = g' at *
  have q1 : N / g = n := by rw [hn]; exact Int.mul_ediv_cancel_left _ (by omega)
  have q2 : W / g = w := by rw [hw]; exact Int.mul_ediv_cancel_left _ (by omega)
  have q3 : N' / g' = n' := by rw [hn']; exact Int.mul_ediv_cancel_left _ (by omega)
  have q4 : W' / g' = w' := by rw [hw']; exact Int.mul_ediv_cancel_left _ (by omega)
  rw [q1, q2, q3, q4]
  have gg : 0 < g * g' := Int.mul_pos g0 g1
  have ew : w = w' := by
    have a : g * g' * w' = g * g' * w := by
      have := e2
      rw [hw, hw'] at this
      rw [Int.mul_assoc, this, ← Int.mul_assoc, Int.mul_comm g' g]
    exact (Int.eq_of_mul_eq_mul_left (by omega) a).symm
  refine ⟨?_, ew⟩
  have w0 : 0 < g * w := by rw [← hw]; exact W0
  have a : n * (g * g' * w) = n' * (g * g' * w) := by
    have b := h
    rw [hn, hw', hn', hw, ← ew] at b
    have c1 : n * (g * g' * w) = g * n * (g' * w) := by
      rw [Int.mul_comm g n, Int.mul_assoc n, Int.mul_assoc g]
    have c2 : n' * (g * g' * w) = g' * n' * (g * w) := by
      rw [Int.mul_comm g' n', Int.mul_assoc n', Int.mul_comm g g', Int.mul_assoc g']
    rw [c1, c2]
    exact b
  refine Int.eq_of_mul_eq_mul_right ?_ a
  have : g * g' * w = g' * (g * w) := by rw [Int.mul_comm g g', Int.mul_assoc]
  rw [this]
  exact Int.ne_of_gt (Int.mul_pos g1 w0)
theorem pos_frac {p l h num den c e : Int} (f : Fm p l h) (d0 : 0 < den) (x : FlAt p l h (unA num l) (unB den l) c) (y : ExpAt p l h num den e) : ∃ G F, 0 < G ∧ 0 < F ∧ (posN p l num den e - c * posW den e) * G = (unA num l - uV p c * unB den l) * F ∧ posW den e * G = P2 (moreI p c + 1) * unB den l * F := by
  obtain rfl := y.uniq d0 (x.exp f d0)
  obtain ⟨m0, m1, m2⟩ := half_rng (p := p) x.c0
  obtain ⟨G, F, g0, f0, e1, e2⟩ := scl num den l (moreI p c + 1).toNat (ptE p l c) (by unfold ptE; omega) d0
  have ec : c = moreI p c * halfI p + ptM p c := by unfold ptM; omega
  have en : posN p l num den (ptE p l c) = moreI p c * halfI p * posW den (ptE p l c) + num * P2 (-(ptE p l c)) := by
    unfold posN
    rw [show ptE p l c - l = moreI p c by unfold ptE; omega]
  refine ⟨G, F, g0, f0, ?_, e2⟩
  have e3 : posN p l num den (ptE p l c) - c * posW den (ptE p l c) = num * P2 (-(ptE p l c)) - ptM p c * posW den (ptE p l c) := by
    have : c * posW den (ptE p l c) = moreI p c * halfI p * posW den (ptE p l c) + ptM p c * posW den (ptE p l c) := by
      rw [← Int.add_mul, ← ec]
    omega
  have key : ptM p c * posW den (ptE p l c) * G = uV p c * unB den l * F := by
    unfold posW uV
    rw [Int.mul_assoc (ptM p c), e2]
    unfold P2
    rw [Int.mul_assoc (ptM p c), Int.mul_assoc (ptM p c)]
  rw [e3, Int.sub_mul, Int.sub_mul, e1, key]
/-- a point between two codes, or above the last one -/
theorem even_pos {p l h num den c part whole : Int} (f : Fm p l h) (d0 : 0 < den) (c0 : 0 ≤ c) (c1 : c < cntI p l h) (p0 : 0 ≤ part) (w0 : 0 < whole) (p1 : part ≤ whole ∨ c + 1 = cntI p l h) (r : unA num l * whole = (uV p c * whole + part * P2 (moreI p c + 1)) * unB den l) : ∃ e, ExpAt p l h num den e ∧ 0 < posW den e ∧ posN p l num den e * whole = (c * whole + part) * posW den e := by
  have B0 : 0 < unB den l := Int.mul_pos d0 (P2_pos _)
  have g0 := P2_pos (moreI p c + 1)
  have un := uV_lt (p := p) c0
  by_cases t : part < whole ∨ c + 1 = cntI p l h
  · have x : FlAt p l h (unA num l) (unB den l) c := by
      refine ⟨c0, c1, ?_, fun y => ?_⟩
      · refine Int.le_of_mul_le_mul_right (a := whole) ?_ w0
        rw [r, Int.add_mul, Int.mul_right_comm]
        have := Int.mul_nonneg (Int.mul_nonneg p0 (Int.le_of_lt g0)) (Int.le_of_lt B0)
        omega
      · have t : part < whole := by omega
        refine Int.lt_of_mul_lt_mul_right (a := whole) ?_ (Int.le_of_lt w0)
        rw [r, un, Int.add_mul, Int.add_mul, Int.add_mul]
        have a := Int.mul_lt_mul_of_pos_right (Int.mul_lt_mul_of_pos_right t g0) B0
        have b1 : uV p c * whole * unB den l = uV p c * unB den l * whole := Int.mul_right_comm ..
        have b2 : whole * P2 (moreI p c + 1) * unB den l = P2 (moreI p c + 1) * unB den l * whole := by
          rw [Int.mul_assoc, Int.mul_comm]
        omega
    refine ⟨_, x.exp f d0, Int.mul_pos d0 (P2_pos _), ?_⟩
    obtain ⟨G, F, G0, F0, e1, e2⟩ := pos_frac f d0 x (x.exp f d0)
    generalize posN p l num den (ptE p l c) = N at *
    generalize posW den (ptE p l c) = W at *
    have key : (N - c * W) * whole = part * W := by
      refine Int.eq_of_mul_eq_mul_right (Int.ne_of_gt G0) ?_
      have a1 : (N - c * W) * whole * G = (unA num l - uV p c * unB den l) * F * whole := by
        rw [Int.mul_right_comm, e1]
      have a2 : part * W * G = part * (P2 (moreI p c + 1) * unB den l * F) := by rw [Int.mul_assoc, e2]
      rw [a1, a2, Int.mul_right_comm _ F, Int.sub_mul, r, Int.add_mul]
      have a3 : uV p c * whole * unB den l = uV p c * unB den l * whole := Int.mul_right_comm ..
      rw [a3, show uV p c * unB den l * whole + part * P2 (moreI p c + 1) * unB den l - uV p c * unB den l * whole = part * P2 (moreI p c + 1) * unB den l by omega]
      rw [Int.mul_assoc part, Int.mul_assoc part]
    have e3 : (N - c * W) * whole = N * whole - c * whole * W := by
      rw [Int.sub_mul, Int.mul_right_comm c]
    rw [Int.add_mul]
    omega
  · obtain rfl : part = whole := by omega
    have c2 : c + 1 < cntI p l h := by omega
    have ex : unA num l = uV p (c + 1) * unB den l := by
      refine Int.eq_of_mul_eq_mul_right (Int.ne_of_gt w0) ?_
      rw [r, un, Int.mul_comm part, ← Int.add_mul, Int.mul_right_comm]
    have x : FlAt p l h (unA num l) (unB den l) (c + 1) := ⟨by omega, c2, by rw [ex]; exact Int.le_refl _, fun y => by
      rw [ex]
      exact Int.mul_lt_mul_of_pos_right (uV_ne (by omega) (by omega)) B0⟩
    refine ⟨_, x.exp f d0, Int.mul_pos d0 (P2_pos _), ?_⟩
    obtain ⟨W0, lo, eq, up⟩ := pos_at f d0 x (x.exp f d0)
    rw [← eq.mpr ex, Int.mul_right_comm]
    congr 1
    rw [Int.add_mul, Int.one_mul]
/-- the value of a code as a fraction -/
structure VF (p l c a b : Int) : Prop where
  a0 : 0 ≤ a
  b0 : 0 < b
  ab : a.natAbs < 2 ^ 1400
  bb : b.natAbs < 2 ^ 1400
  e : unA a l = uV p c * unB b l
theorem vf_of {p l c m e : Int} (le : l - 1 ≤ e) (m0 : 0 ≤ m) (mb : m.natAbs < 2 ^ 130) (eb : -1200 ≤ e ∧ e ≤ 1200) (h : uV p c = m * P2 (e - l + 1)) : VF p l c (m * P2 e) (1 * P2 (0 - e)) := by
  have s := sh_id le
  refine ⟨Int.mul_nonneg m0 (Int.le_of_lt (P2_pos _)), by rw [Int.one_mul]; exact P2_pos _, up_pow 1400 (mul_pow mb (P2_bits e 1200 (by omega))), by rw [Int.one_mul]; exact up_pow 1400 (P2_bits (0 - e) 1200 (by omega)), ?_⟩
  unfold unA unB
  rw [h, Int.one_mul, Int.mul_assoc, s, show 0 - e = -e by omega, Int.mul_assoc m, Int.mul_comm (P2 (-e))]
theorem uV_top {p l h : Int} (lh : l ≤ h) : uV p (cntI p l h) = 2 * halfI p * P2 (h - l + 1) := by
  have hp := halfI_pos p
  obtain ⟨a, b⟩ := pt_of (p := p) (g := h - l + 1) (f := halfI p) (by omega) (by omega) (by omega) (.inr (Int.le_refl _))
  have e : cntI p l h = (h - l + 1) * halfI p + halfI p := by
    unfold cntI
    rw [show h - l + 2 = (h - l + 1) + 1 by omega, Int.add_mul _ 1, Int.one_mul]
  unfold uV
  rw [e, a, b, P2_succ (show 0 ≤ h - l + 1 by omega), ← Int.mul_assoc, Int.mul_comm (halfI p) 2]
theorem more_last {p l h : Int} (lh : l ≤ h) : moreI p (cntI p l h - 1) = h - l := by
  have hp := halfI_pos p
  have := (pt_of (p := p) (g := h - l) (f := 2 * halfI p - 1) (by omega) (by omega) (by omega) (.inr (by omega))).1
  rw [← this]
  congr 1
  unfold cntI
  rw [Int.add_mul]
  omega
/-- what the law makes between two codes -/
theorem btw_units {p l c a b a' b' part whole : Int} (c0 : 0 ≤ c) (x : VF p l c a b) (y : VF p l (c + 1) a' b') : unA (a * b' * (whole - part) + a' * b * part) l * whole = (uV p c * whole + part * P2 (moreI p c + 1)) * unB (b * b' * whole) l := by
  have un := uV_lt (p := p) c0
  have e1 := x.e
  have e2 := y.e
  unfold unA unB at *
  rw [un] at e2
  generalize uV p c = u at *
  generalize P2 (moreI p c + 1) = g at *
  generalize P2 (1 - l) = P at *
  generalize P2 (l - 1) = R at *
  have h1 : a * b' * (whole - part) * P = u * (b * R) * (b' * (whole - part)) := by
    rw [← e1]
    simp only [Int.mul_assoc, Int.mul_left_comm, Int.mul_comm]
  have h2 : a' * b * part * P = (u + g) * (b' * R) * (b * part) := by
    rw [← e2]
    simp only [Int.mul_assoc, Int.mul_left_comm, Int.mul_comm]
  rw [Int.add_mul, h1, h2]
  have h3 : u * (b * R) * (b' * (whole - part)) = b * b' * R * (u * whole - u * part) := by
    rw [← Int.mul_sub]
    simp only [Int.mul_assoc, Int.mul_left_comm, Int.mul_comm]
  have h4 : (u + g) * (b' * R) * (b * part) = b * b' * R * (u * part + g * part) := by
    rw [← Int.add_mul]
    simp only [Int.mul_assoc, Int.mul_left_comm, Int.mul_comm]
  rw [h3, h4, ← Int.mul_add, show u * whole - u * part + (u * part + g * part) = u * whole + g * part by omega, Int.mul_comm g part]
  simp only [Int.mul_assoc, Int.mul_left_comm, Int.mul_comm]
/-- the moved format -/
theorem mov_units {l num den k X whole : Int} (k0 : 0 ≤ k) (h : unA num l * whole = X * unB den l) : unA (num * P2 k) (l + k) * whole = X * unB den (l + k) := by
  have s := P2_shift (l - 1) k.toNat
  rw [show ((k.toNat : Nat) : Int) = k by omega, show -(l - 1) = 1 - l by omega, show -(l - 1 + k) = 1 - (l + k) by omega, show l - 1 + k = l + k - 1 by omega, show (2 : Int) ^ k.toNat = P2 k from rfl] at s
  have R0 := P2_pos (l - 1)
  unfold unA unB at *
  refine Int.eq_of_mul_eq_mul_right (show P2 (l - 1) ≠ 0 by omega) ?_
  generalize P2 (1 - (l + k)) = P' at *
  generalize P2 (l + k - 1) = R' at *
  generalize P2 (1 - l) = P at *
  generalize P2 (l - 1) = R at *
  generalize P2 k = K at *
  have a : num * K * P' * whole * R = num * P * whole * R' := by
    have b : num * K * P' * whole * R = num * whole * (K * (R * P')) := by simp only [Int.mul_assoc, Int.mul_left_comm, Int.mul_comm]
    rw [b, ← s]
    simp only [Int.mul_assoc, Int.mul_left_comm, Int.mul_comm]
  rw [a, h]
  simp only [Int.mul_assoc, Int.mul_left_comm, Int.mul_comm]


/-! ### reading: the code by each way -/
structure RdOk (n d : Int) : Prop where
  n0 : 0 ≤ n
  d0 : 0 < d
  b : d.natAbs < 2 ^ 8990 ∨ (n.natAbs < 2 ^ 13490 ∧ d.natAbs < 2 ^ 13490)
def rndI (w : Str) (n d : Int) : Int := if w = "even" then nearI n d else if w = "away" then (2 * n + d) / (2 * d) else if w = "zero" then n / d else if w = "out" then -(-n / d) else if n % d = 0 then n / d else n / d + 1 - n / d % 2
def readI (w : Str) (c s : Int) : Int := if s = 0 then c else if w = "even" then c + (if s = 3 ∨ (s = 2 ∧ c % 2 = 1) then 1 else 0) else if w = "away" then c + (if s > 1 then 1 else 0) else if w = "zero" then c else if w = "out" then c + 1 else c + 1 - c % 2
def sideN (c N W : Int) : Int := if N = c * W then 0 else if 2 * (N - c * W) < W then 1 else if 2 * (N - c * W) = W then 2 else 3
theorem rnd_code {w : Str} {c N W : Int} (W0 : 0 < W) (lo : c * W ≤ N) (up : N < (c + 1) * W) : rndI w N W = readI w c (sideN c N W) := by
  have q := div_at W0 lo up
  have m : N % W = N - c * W := by
    have := Int.mul_ediv_add_emod N W
    rw [q, Int.mul_comm W c] at this
    omega
  have up : N < c * W + W := by rw [Int.add_mul, Int.one_mul] at up; exact up
  have aw : (2 * N + W) / (2 * W) = c + if 2 * (N - c * W) < W then 0 else 1 := by
    split
    · refine div_at (by omega) ?_ ?_
      · rw [Int.add_zero, Int.mul_left_comm]; omega
      · rw [Int.add_zero, Int.add_mul, Int.mul_left_comm]; omega
    · refine div_at (by omega) ?_ ?_
      · rw [Int.add_mul, Int.mul_left_comm]; omega
      · rw [Int.add_mul, Int.add_mul, Int.mul_left_comm]; omega
  unfold rndI nearI
  rw [q, m, aw]
  by_cases z : N = c * W
  · have s0 : sideN c N W = 0 := by unfold sideN; rw [if_pos z]
    rw [s0]
    unfold readI
    rw [if_pos rfl, ceil_eq W0 z.symm, if_pos (show N - c * W = 0 by omega), if_neg (show ¬ (2 * (N - c * W) > W ∨ 2 * (N - c * W) = W ∧ c % 2 = 1) by omega), if_pos (show 2 * (N - c * W) < W by omega), Int.add_zero]
    split
    · rfl
    split
    · rfl
    split
    · rfl
    split <;> rfl
  · have ce := ceil_at W0 (show c * W < N by omega) (by rw [Int.add_mul, Int.one_mul]; omega)
    have s : sideN c N W ≠ 0 ∧ (sideN c N W = 3 ↔ 2 * (N - c * W) > W) ∧ (sideN c N W = 2 ↔ 2 * (N - c * W) = W) ∧ (sideN c N W > 1 ↔ ¬ 2 * (N - c * W) < W) := by
      unfold sideN
      rw [if_neg z]
      split
      · omega
      · split <;> omega
    obtain ⟨s0, s1, s2, s3⟩ := s
    rw [ce, if_neg (show ¬ N - c * W = 0 by omega)]
    unfold readI
    rw [if_neg s0]
    split
    · congr 1
      by_cases y : 2 * (N - c * W) > W ∨ 2 * (N - c * W) = W ∧ c % 2 = 1
      · rw [if_pos y, if_pos (y.imp s1.mpr fun t => ⟨s2.mpr t.1, t.2⟩)]
      · rw [if_neg y, if_neg fun t => y (t.imp s1.mp fun t => ⟨s2.mp t.1, t.2⟩)]
    split
    · congr 1
      by_cases y : 2 * (N - c * W) < W
      · rw [if_pos y, if_neg fun t => s3.mp t y]
      · rw [if_neg y, if_pos (s3.mpr y)]
    split
    · rfl
    split <;> rfl
def rdI (w : Str) (top N W : Int) : Int := if N ≤ top * W then rndI w N W else if w = "zero" then top else if w = "odd" then top + 1 - top % 2 else if rndI w N W < top + 1 then rndI w N W else top + 1
def IsWay (w : Str) : Prop := w = "even" ∨ w = "away" ∨ w = "zero" ∨ w = "out" ∨ w = "odd"
theorem neA : ¬ ("away" : Str) = "even" := by decide
theorem neZ : ¬ ("zero" : Str) = "even" := by decide
theorem naZ : ¬ ("zero" : Str) = "away" := by decide
theorem neU : ¬ ("out" : Str) = "even" := by decide
theorem naU : ¬ ("out" : Str) = "away" := by decide
theorem nzU : ¬ ("out" : Str) = "zero" := by decide
theorem noU : ¬ ("out" : Str) = "odd" := by decide
theorem neO : ¬ ("odd" : Str) = "even" := by decide
theorem naO : ¬ ("odd" : Str) = "away" := by decide
theorem nzO : ¬ ("odd" : Str) = "zero" := by decide
theorem nuO : ¬ ("odd" : Str) = "out" := by decide
theorem nzE : ¬ ("even" : Str) = "zero" := by decide
theorem noE : ¬ ("even" : Str) = "odd" := by decide
theorem nzA : ¬ ("away" : Str) = "zero" := by decide
theorem noA : ¬ ("away" : Str) = "odd" := by decide
theorem readI_e {c s : Int} (h : s ≠ 0) : readI "even" c s = c + (if s = 3 ∨ (s = 2 ∧ c % 2 = 1) then 1 else 0) := by unfold readI; rw [if_neg h, if_pos rfl]
theorem readI_a {c s : Int} (h : s ≠ 0) : readI "away" c s = c + (if s > 1 then 1 else 0) := by unfold readI; rw [if_neg h, if_neg neA, if_pos rfl]
theorem readI_z {c s : Int} (h : s ≠ 0) : readI "zero" c s = c := by unfold readI; rw [if_neg h, if_neg neZ, if_neg naZ, if_pos rfl]
theorem readI_u {c s : Int} (h : s ≠ 0) : readI "out" c s = c + 1 := by unfold readI; rw [if_neg h, if_neg neU, if_neg naU, if_neg nzU, if_pos rfl]
theorem readI_o {c s : Int} (h : s ≠ 0) : readI "odd" c s = c + 1 - c % 2 := by unfold readI; rw [if_neg h, if_neg neO, if_neg naO, if_neg nzO, if_neg nuO]
theorem readI_0 {w : Str} {c : Int} : readI w c 0 = c := by unfold readI; rw [if_pos rfl]
theorem rd_code {w : Str} {top c N W : Int} (hw : IsWay w) (W0 : 0 < W) (lo : c * W ≤ N) (ct : c ≤ top) (up : c < top → N < (c + 1) * W) : rdI w top N W = readI w c (sideN c N W) := by
  unfold rdI
  by_cases h : N ≤ top * W
  · rw [if_pos h]
    refine rnd_code W0 lo ?_
    by_cases y : c < top
    · exact up y
    · obtain rfl : c = top := by omega
      rw [Int.add_mul, Int.one_mul]
      omega
  rw [if_neg h]
  obtain rfl : c = top := by
    refine Decidable.byContradiction fun y => h ?_
    have u := up (by omega)
    have := Int.mul_le_mul_of_nonneg_right (show c + 1 ≤ top by omega) (Int.le_of_lt W0)
    omega
  have s : sideN c N W ≠ 0 := by
    unfold sideN
    rw [if_neg (by omega)]
    split
    · decide
    · split <;> decide
  by_cases u : N < (c + 1) * W
  · rw [rnd_code W0 lo u]
    generalize sideN c N W = t at *
    rcases hw with rfl | rfl | rfl | rfl | rfl
    · rw [readI_e s, if_neg nzE, if_neg noE]
      split <;> split <;> omega
    · rw [readI_a s, if_neg nzA, if_neg noA]
      split <;> split <;> omega
    · rw [readI_z s, if_pos rfl]
    · rw [readI_u s, if_neg nzU, if_neg noU, if_neg (show ¬ c + 1 < c + 1 by omega)]
    · rw [readI_o s, if_neg nzO, if_pos rfl]
  · have s3 : sideN c N W = 3 := by
      rw [Int.add_mul, Int.one_mul] at u
      unfold sideN
      rw [if_neg (by omega), if_neg (by omega), if_neg (by omega)]
    have q : c + 1 ≤ N / W := (Int.le_ediv_iff_mul_le W0).mpr (by omega)
    rcases hw with rfl | rfl | rfl | rfl | rfl
    · rw [readI_e s, if_neg nzE, if_neg noE, s3, if_pos (show ((3 : Int) = 3 ∨ ((3 : Int) = 2 ∧ c % 2 = 1)) from .inl rfl)]
      have : c + 1 ≤ rndI "even" N W := by
        unfold rndI nearI
        rw [if_pos rfl]
        split <;> omega
      rw [if_neg (by omega)]
    · rw [readI_a s, if_neg nzA, if_neg noA, s3, if_pos (show (3 : Int) > 1 by decide)]
      have : c + 1 ≤ rndI "away" N W := by
        unfold rndI
        rw [if_neg neA, if_pos rfl]
        refine (Int.le_ediv_iff_mul_le (by omega)).mpr ?_
        rw [Int.mul_left_comm]
        omega
      rw [if_neg (by omega)]
    · rw [readI_z s, if_pos rfl]
    · rw [readI_u s, if_neg nzU, if_neg noU]
      have : c + 1 ≤ rndI "out" N W := by
        unfold rndI
        rw [if_neg neU, if_neg naU, if_neg nzU, if_pos rfl]
        exact ceil_ge W0 (by omega)
      rw [if_neg (by omega)]
    · rw [readI_o s, if_neg nzO, if_pos rfl]
/-- the side in the law's units -/
def sideU (p c A B : Int) : Int := if A = uV p c * B then 0 else if 2 * (A - uV p c * B) < P2 (moreI p c + 1) * B then 1 else if 2 * (A - uV p c * B) = P2 (moreI p c + 1) * B then 2 else 3
theorem side_eq {p l h num den c e : Int} (f : Fm p l h) (d0 : 0 < den) (x : FlAt p l h (unA num l) (unB den l) c) (y : ExpAt p l h num den e) : sideN c (posN p l num den e) (posW den e) = sideU p c (unA num l) (unB den l) := by
  obtain ⟨G, F, G0, F0, e1, e2⟩ := pos_frac f d0 x y
  unfold sideN sideU
  generalize posN p l num den e = N at *
  generalize posW den e = W at *
  generalize unA num l = A at *
  generalize unB den l = B at *
  generalize uV p c * B = U at *
  generalize P2 (moreI p c + 1) * B = V at *
  generalize c * W = cW at *
  have e3 : 2 * (N - cW) * G = 2 * (A - U) * F := by rw [Int.mul_assoc, e1, Int.mul_assoc]
  have z : N = cW ↔ A = U := by
    constructor
    · intro h
      rw [show N - cW = 0 by omega, Int.zero_mul] at e1
      rcases Int.mul_eq_zero.mp e1.symm with h | h <;> omega
    · intro h
      rw [show A - U = 0 by omega, Int.zero_mul] at e1
      rcases Int.mul_eq_zero.mp e1 with h | h <;> omega
  have lt : 2 * (N - cW) < W ↔ 2 * (A - U) < V := by
    constructor
    · intro h
      have := Int.mul_lt_mul_of_pos_right h G0
      rw [e3, e2] at this
      exact Int.lt_of_mul_lt_mul_right this (Int.le_of_lt F0)
    · intro h
      have := Int.mul_lt_mul_of_pos_right h F0
      rw [← e3, ← e2] at this
      exact Int.lt_of_mul_lt_mul_right this (Int.le_of_lt G0)
  have eq : 2 * (N - cW) = W ↔ 2 * (A - U) = V := by
    constructor
    · intro h
      have : 2 * (N - cW) * G = W * G := by rw [h]
      rw [e3, e2] at this
      exact Int.eq_of_mul_eq_mul_right (by omega) this
    · intro h
      have : 2 * (A - U) * F = V * F := by rw [h]
      rw [← e3, ← e2] at this
      exact Int.eq_of_mul_eq_mul_right (by omega) this
  simp only [z, lt, eq]
/-- what a decimal is read as -/
theorem read_code {w : Str} {p l h num den c e : Int} (hw : IsWay w) (f : Fm p l h) (d0 : 0 < den) (x : FlAt p l h (unA num l) (unB den l) c) (y : ExpAt p l h num den e) : rdI w (cntI p l h - 1) (posN p l num den e) (posW den e) = readI w c (sideU p c (unA num l) (unB den l)) := by
  obtain ⟨W0, lo, eq, up⟩ := pos_at f d0 x y
  rw [rd_code hw W0 lo (by have := x.c1; omega) fun g => up (by omega), side_eq f d0 x y]


/-! ### all numbers of a small format -/
structure Sm (p l h : Int) : Prop where
  f : Fm p l h
  p1 : p ≤ 12
  h1 : h ≤ l + 200
def cntN (p l h : Int) : Nat := (cntI p l h).toNat
def ptsL (p l h : Int) : List D := (List.range (cntN p l h)).map fun c => ptD p l (c : Nat)
def lineL (p l h : Int) : List D := (List.range (cntN p l h + 1)).map fun c => D.int (uV p (c : Nat))
theorem half_sm {p : Int} (p1 : p ≤ 12) : halfI p ≤ 2048 := by
  have := Nat.pow_le_pow_right (show 0 < 2 by decide) (show (p - 1).toNat ≤ 11 by omega)
  have e1 : ((2 ^ (p - 1).toNat : Nat) : Int) = 2 ^ (p - 1).toNat := by rw [Int.natCast_pow]; rfl
  unfold halfI
  omega
theorem cnt_sm {p l h : Int} (s : Sm p l h) : cntI p l h ≤ 413696 ∧ (cntN p l h : Int) = cntI p l h ∧ 2 ≤ cntN p l h := by
  have a := half_sm s.p1
  have hp := halfI_pos p
  have b := s.h1
  have c := cnt_pos s.f
  have : cntI p l h ≤ 413696 := by
    unfold cntI
    have x := Int.mul_le_mul_of_nonneg_right (show h - l + 2 ≤ 202 by omega) (Int.le_of_lt hp)
    omega
  refine ⟨this, ?_, ?_⟩
  · unfold cntN; omega
  · unfold cntN; omega
theorem line_len {p l h : Int} (s : Sm p l h) : ((lineL p l h).length : Int) = cntI p l h + 1 ∧ (lineL p l h).length ≤ 413697 := by
  obtain ⟨a, b, _⟩ := cnt_sm s
  unfold lineL
  rw [List.length_map, List.length_range]
  omega
theorem line_at {p l h c : Int} (s : Sm p l h) (c0 : 0 ≤ c) (c1 : c ≤ cntI p l h) : atI (lineL p l h) c = some (.int (uV p c)) := by
  obtain ⟨a, b, _⟩ := cnt_sm s
  refine atI_nat' (j := c.toNat) (by omega) ?_
  unfold lineL
  rw [List.getElem?_map, List.getElem?_range (by omega)]
  show some (D.int (uV p ((c.toNat : Nat) : Int))) = _
  rw [show ((c.toNat : Nat) : Int) = c by omega]
/-- the rows of codes -/
theorem row_pts {p l : Int} (i n : Nat) (hn : (n : Int) = halfI p) : (List.range n).map (fun k => D.tup [.int (halfI p + (k : Nat)), .int (l + 1 + (i : Nat))]) = (List.range n).map ((fun c => ptD p l (c : Nat)) ∘ ((2 + i) * n + ·)) := by
  refine List.map_congr_left fun k hk => ?_
  have kn : k < n := List.mem_range.mp hk
  have e : (((2 + i) * n + k : Nat) : Int) = ((i : Int) + 1) * halfI p + (halfI p + k) := by
    rw [Int.natCast_add, Int.natCast_mul, hn, Int.natCast_add, Int.add_mul, Int.add_mul]
    omega
  obtain ⟨a, b⟩ := pt_of (p := p) (g := (i : Int) + 1) (f := halfI p + k) (by omega) (by omega) (by omega) (.inr (by omega))
  show _ = ptD p l (((2 + i) * n + k : Nat) : Int)
  unfold ptD ptE
  rw [e, a, b, show l + ((i : Int) + 1) = l + 1 + i by omega]
theorem low_pts {p l : Int} (p1 : 1 ≤ p) (n : Nat) (hn : (n : Int) = halfI p) : (List.range (2 * n)).map (fun k => D.tup [.int (0 + (k : Nat)), .int l]) = (List.range (2 * n)).map fun c => ptD p l (c : Nat) := by
  refine List.map_congr_left fun k hk => ?_
  have kn : k < 2 * n := List.mem_range.mp hk
  show _ = ptD p l (k : Int)
  rw [law_parts_lo p1 (by omega) (by rw [halfI_two p1]; omega), Int.zero_add]
def lineF (l : Int) : D → D
  | .tup [.int m, .int e] => .int (m * 2 ^ (e - l + 1).toNat)
  | d => d
theorem line_pts {p l h : Int} (f : Fm p l h) (s : Sm p l h) : (ptsL p l h).map (lineF l) ++ [.int (2 * halfI p * P2 (h - l + 1))] = lineL p l h := by
  obtain ⟨a, b, _⟩ := cnt_sm s
  unfold ptsL lineL
  rw [List.range_succ, List.map_append, List.map_map]
  congr 1
  · refine List.map_congr_left fun k hk => ?_
    have e0 := (half_rng (p := p) (show 0 ≤ (k : Int) by omega)).1
    show D.int (ptM p (k : Int) * 2 ^ (ptE p l (k : Int) - l + 1).toNat) = D.int (uV p (k : Int))
    unfold uV ptE P2
    rw [show l + moreI p (k : Int) - l + 1 = moreI p (k : Int) + 1 by omega]
  · show [D.int _] = [D.int (uV p ((cntN p l h : Nat) : Int))]
    rw [b, uV_top f.lh]
theorem uV_s {p l h c : Int} (s : Sm p l h) (h0 : 0 ≤ c) (hc : c ≤ cntI p l h) : (uV p c).natAbs < 2 ^ 220 := by
  have t := uV_le (p := p) h0 hc
  rw [uV_top s.f.lh] at t
  have z := uV_nn (p := p) h0
  have hs := half_sm s.p1
  have hp := halfI_pos p
  have b : (2 * halfI p * P2 (h - l + 1)).natAbs < 2 ^ (13 + 202) := mul_pow (k := 13) (by omega) (P2_bits (h - l + 1) 201 (by have := s.h1; omega))
  exact Nat.lt_of_le_of_lt (by omega) (Nat.lt_of_lt_of_le b (Nat.pow_le_pow_right (by decide) (by decide)))
theorem whM_s {m e : Int} (h : m.natAbs < 2 ^ 221) (h0 : -100 ≤ e) (h1 : e ≤ 100) : (whM m e).natAbs < 2 ^ 530 := by
  unfold whM
  split
  · exact up_pow 530 (mul_pow h (P2_bits e 100 h1)) (by decide)
  · have : ((5 : Int) ^ (-e).toNat).natAbs < 2 ^ 300 := by
      rw [Int.natAbs_pow]
      exact Nat.lt_of_le_of_lt (Nat.pow_le_pow_right (by decide) (show (-e).toNat ≤ 100 by omega)) (show (5 : Nat) ^ 100 < 2 ^ 300 by decide +kernel)
    exact up_pow 530 (mul_pow h this) (by decide)
theorem avg_s {a b : Int} (a0 : 0 ≤ a) (b0 : 0 ≤ b) (ha : a.natAbs < 2 ^ 220) (hb : b.natAbs < 2 ^ 220) : 0 ≤ (a + b) / 2 ∧ ((a + b) / 2).natAbs < 2 ^ 221 := ⟨Int.ediv_nonneg (by clear ha hb; omega) (by decide), div_bits (add_pow ha hb)⟩


def sp__law_form : Spc := fun ds hc Q _ => ∃ b r q N, ds = [.ref r] ∧ Dk b r q N hc ∧ N < 900000 ∧ ∀ p l h hc', Sm p l h → p ≤ 5 → -8 ≤ l → h ≤ 12 → Dk b r q (N + 3) hc' → Q (fmD p l h) hc'
theorem len__law_form {ds : List D} {hc : CH} {Q E} (h : sp__law_form ds hc Q E) : ds.length = 1 := by
  obtain ⟨b, r, q, N, rfl, _⟩ := h
  rfl
theorem pure__law_form {ds : List D} {hc : CH} {Q : D → CH → Prop} {E} (h : sp__law_form ds hc Q E) : c__law_form { nx := fun _ hc' => Q .non hc', rt := Q, xp := fun x _ hc' => E x hc' } (startC N__law_form ds) hc := by
  obtain ⟨b, r, q, N, rfl, dk, hN, k⟩ := h
  unfold c__law_form N__law_form
  refine seq_step fun M hM => ?_
  walk_at "n"
  refine ⟨b, r, q, _, _, rfl, dk, by omega, by decide, by decide, fun x hc1 x0 x1 dk => ?_⟩
  walk_at "n"
  refine hM _ _ ?_
  walk_at "n"
  refine ⟨b, r, q, _, _, rfl, dk, by omega, by decide, by decide, fun y hc2 y0 y1 dk => ?_⟩
  walk_at "n"
  refine ⟨b, r, q, _, _, rfl, dk, by omega, by decide, by decide, fun z hc3 z0 z1 dk => ?_⟩
  walk_at "n"
  refine ⟨by decide, k _ _ _ _ ⟨⟨by omega, by omega, by omega, by omega, by omega⟩, by omega, by omega⟩ (by omega) (by omega) (by omega) dk⟩


theorem at__law_form (T : Txt K mg) (B : BaseT K mg base) (KX : K.In base) (PS : Sup P mf) (A__law_draw : FnAt P w K mg base 1 "_law_draw" ["_law_deck_here", "_law_many"] sp__law_draw) : FnAt P w K mg base 2 "_law_form" ["_law_deck_here"] sp__law_form :=
  fn_at (c := c__law_form) T.d__law_form sc__law_form (fun f cdv A outer s H E hr => by
    have nd := sc__law_form.nd
    exact (css_cons (cs_set nd (ce_op op_subD (CE.bo (ce_f A__law_draw hr (ca_cons (ce_v 0) (ca_cons ce_i ca_nil)))) (CE.bo ce_i)))
    (css_one (cs_ret (CE.bo (ce_tup (ca_cons (ce_op op_addD (CE.bo ce_i) (CE.bo (ce_f A__law_draw hr (ca_cons (ce_v 0) (ca_cons ce_i ca_nil))))) (ca_cons (ce_v 1) (ca_cons (ce_op op_addD (CE.bo (ce_v 1)) (CE.bo (ce_f A__law_draw hr (ca_cons (ce_v 0) (ca_cons ce_i ca_nil))))) ca_nil)))))))))
    (fun ds hc Q E h => len__law_form h) (fun ds hc Q E h => pure__law_form h) (fun _ _ _ _ _ _ us hl => match us, hl with | [_], _ => rfl)

abbrev N__law_pick : List Str := ["_law_deck_here", "_law_some"]
def c__law_pick : CSx :=
  (cRet (cOp ixD (cV 1) (cCall sp__law_draw (cCons (cV 0) (cCons (cFn lenD (cCons (cV 1) cNil)) cNil)))))

def sp__law_pick : Spc := fun ds hc Q _ => ∃ b r q N xs, ds = [.ref r, .lst xs] ∧ Dk b r q N hc ∧ N < 900000 ∧ 0 < xs.length ∧ xs.length ≤ 1000000 ∧ ∀ (j : Nat) d hc', xs[j]? = some d → Dk b r q (N + 1) hc' → Q d hc'
theorem len__law_pick {ds : List D} {hc : CH} {Q E} (h : sp__law_pick ds hc Q E) : ds.length = 2 := by
  obtain ⟨b, r, q, N, xs, rfl, _⟩ := h
  rfl
theorem pure__law_pick {ds : List D} {hc : CH} {Q : D → CH → Prop} {E} (h : sp__law_pick ds hc Q E) : c__law_pick { nx := fun _ hc' => Q .non hc', rt := Q, xp := fun x _ hc' => E x hc' } (startC N__law_pick ds) hc := by
  obtain ⟨b, r, q, N, xs, rfl, dk, hN, l0, l1, k⟩ := h
  unfold c__law_pick N__law_pick
  walk_at "n"
  refine ⟨b, r, q, N, _, rfl, dk, by omega, by omega, by
    have e : (10 : Int) ^ 18 = 1000000000000000000 := by decide
    omega, fun j hc' j0 j1 dk' => ?_⟩
  refine atD_all j0 j1 fun i d ej ed => k i d hc' ed dk'


theorem at__law_pick (T : Txt K mg) (B : BaseT K mg base) (KX : K.In base) (PS : Sup P mf) (A__law_draw : FnAt P w K mg base 1 "_law_draw" ["_law_deck_here", "_law_many"] sp__law_draw) : FnAt P w K mg base 2 "_law_pick" ["_law_deck_here", "_law_some"] sp__law_pick :=
  fn_at (c := c__law_pick) T.d__law_pick sc__law_pick (fun f cdv A outer s H E hr => by
    have nd := sc__law_pick.nd
    exact (css_one (cs_ret (CE.bo (ce_ix (CE.bo (ce_v 1)) (ce_f A__law_draw hr (ca_cons (ce_v 0) (ca_cons (ce_bf bf_len T.n_len (cba_cons (CE.bo (ce_v 1)) cba_nil)) ca_nil))))))))
    (fun ds hc Q E h => len__law_pick h) (fun ds hc Q E h => pure__law_pick h) (fun _ _ _ _ _ _ us hl => match us, hl with | [_, _], _ => rfl)

abbrev N__law_power : List Str := ["_law_deck_here", "_law_form_here", "_law_p", "_law_low", "_law_high"]
def c__law_power : CSx :=
  (cSeq (cAsg (cV 1) (gUn 3 (gCons' (gN 2) (gCons' (gN 3) (gCons' (gN 4) gNil')))))
    (cRet (cCall sp__law_pick (cCons (cV 0) (cCons (cLst (cCons (cC (.int 0)) (cCons (cC (.int 1)) (cCons (cUn negD (cC (.int 1))) (cCons (cUn negD (cC (.int 2))) (cCons (cUn negD (cC (.int 3))) (cCons (cOp fdivD (cOp mulD (cV 4) (cC (.int 3))) (cC (.int 10))) (cCons (cOp subD (cOp fdivD (cOp mulD (cV 3) (cC (.int 3))) (cC (.int 10))) (cC (.int 2))) (cCons (cOp subD (cCall sp__law_draw (cCons (cV 0) (cCons (cC (.int 9)) cNil))) (cC (.int 5))) cNil))))))))) cNil)))))

def sp__law_power : Spc := fun ds hc Q _ => ∃ b r q N p l h, ds = [.ref r, fmD p l h] ∧ Dk b r q N hc ∧ N < 800000 ∧ Fm p l h ∧ ∀ (x : Int) hc', x.natAbs ≤ 400 → Dk b r q (N + 2) hc' → Q (.int x) hc'
theorem len__law_power {ds : List D} {hc : CH} {Q E} (h : sp__law_power ds hc Q E) : ds.length = 2 := by
  obtain ⟨b, r, q, N, p, l, h, rfl, _⟩ := h
  rfl
theorem pure__law_power {ds : List D} {hc : CH} {Q : D → CH → Prop} {E} (h : sp__law_power ds hc Q E) : c__law_power { nx := fun _ hc' => Q .non hc', rt := Q, xp := fun x _ hc' => E x hc' } (startC N__law_power ds) hc := by
  obtain ⟨b, r, q, N, p, l, h, rfl, dk, hN, f, k⟩ := h
  have l0 := f.l0
  have lh := f.lh
  have h1 := f.h1
  unfold c__law_power N__law_power
  refine seq_step fun M hM => ?_
  walk_at "n"
  refine hM _ _ ?_
  walk_at "n"
  refine ⟨mulOk_r (by decide), divOk 4 (by decide) (by decide) (by decide), mulOk_r (by decide), divOk 4 (by decide) (by decide) (by decide), b, r, q, _, _, rfl, dk, by omega, by decide, by decide, fun y hc1 y0 y1 dk => ?_⟩
  walk_at "n"
  refine ⟨by decide, b, r, q, _, _, rfl, dk, by omega, by walk_at "l", by walk_at "l", fun j d hc2 hd dk => ?_⟩
  have hd := List.mem_of_getElem? hd
  simp only [List.mem_cons, List.not_mem_nil, or_false] at hd
  rcases hd with rfl | rfl | rfl | rfl | rfl | rfl | rfl | rfl <;> exact k _ _ (by omega) dk


theorem at__law_power (T : Txt K mg) (B : BaseT K mg base) (KX : K.In base) (PS : Sup P mf) (A__law_draw : FnAt P w K mg base 1 "_law_draw" ["_law_deck_here", "_law_many"] sp__law_draw) (A__law_pick : FnAt P w K mg base 2 "_law_pick" ["_law_deck_here", "_law_some"] sp__law_pick) : FnAt P w K mg base 3 "_law_power" ["_law_deck_here", "_law_form_here"] sp__law_power :=
  fn_at (c := c__law_power) T.d__law_power sc__law_power (fun f cdv A outer s H E hr => by
    have nd := sc__law_power.nd
    exact (css_cons (cs_asg (ce_v 1) (cg_u rfl (cgs_cons (cg_n 2 nd) (cgs_cons (cg_n 3 nd) (cgs_cons (cg_n 4 nd) cgs_nil)))))
    (css_one (cs_ret (CE.bo (ce_f A__law_pick hr (ca_cons (ce_v 0) (ca_cons (ce_lst (ca_cons ce_i (ca_cons ce_i (ca_cons (ce_un un_negD (CE.bo ce_i)) (ca_cons (ce_un un_negD (CE.bo ce_i)) (ca_cons (ce_un un_negD (CE.bo ce_i)) (ca_cons (ce_op op_fdivD (CE.bo (ce_op op_mulD (CE.bo (ce_v 4)) (CE.bo ce_i))) (CE.bo ce_i)) (ca_cons (ce_op op_subD (CE.bo (ce_op op_fdivD (CE.bo (ce_op op_mulD (CE.bo (ce_v 3)) (CE.bo ce_i))) (CE.bo ce_i))) (CE.bo ce_i)) (ca_cons (ce_op op_subD (CE.bo (ce_f A__law_draw hr (ca_cons (ce_v 0) (ca_cons ce_i ca_nil)))) (CE.bo ce_i)) ca_nil))))))))) ca_nil))))))))
    (fun ds hc Q E h => len__law_power h) (fun ds hc Q E h => pure__law_power h) (fun _ _ _ _ _ _ us hl => match us, hl with | [_, _], _ => rfl)

abbrev N__law_ten : List Str := ["_law_many", "_law_found", "_law_k"]
def c__law_ten : CSx :=
  (cSeq (cAsg (cC (.int 1)) (gN 1))
    (cSeq (cFor (cR1 (cCons (cV 0) cNil)) (gN 2)
    (cAsg (cOp mulD (cV 1) (cC (.int 10))) (gN 1)))
    (cRet (cV 1))))

def sp__law_ten : Spc := fun ds hc Q _ => ∃ p : Int, ds = [.int p] ∧ p ≤ 100000 ∧ Q (.int (P10 p)) hc
theorem len__law_ten {ds : List D} {hc : CH} {Q E} (h : sp__law_ten ds hc Q E) : ds.length = 1 := by
  obtain ⟨p, rfl, _⟩ := h
  rfl
theorem pure__law_ten {ds : List D} {hc : CH} {Q : D → CH → Prop} {E} (h : sp__law_ten ds hc Q E) : c__law_ten { nx := fun _ hc' => Q .non hc', rt := Q, xp := fun x _ hc' => E x hc' } (startC N__law_ten ds) hc := by
  obtain ⟨p, rfl, hp, k⟩ := h
  unfold c__law_ten N__law_ten
  refine seq_step fun M hM => ?_
  walk_at "n"
  refine hM _ _ ?_
  refine seq_step fun M hM => ?_
  refine for_step fun R hR => ?_
  walk_at "n"
  refine hR _ _ (fun i sc h => h = hc ∧ ∃ o, sc = [.val (.int p), .val (.int (10 ^ i)), o]) ⟨rfl, _, rfl⟩ (fun j d sc h Nx e I nx => ?_) (fun sc h I => ?_)
  · obtain ⟨rfl, o, rfl⟩ := I
    obtain ⟨rfl, jp⟩ := rng_at e
    walk_at "n"
    refine ⟨mulOk_r (by decide), nx _ _ ⟨rfl, .val (.int j), ?_⟩⟩
    rw [Int.pow_succ]
  · obtain ⟨rfl, o, rfl⟩ := I
    refine hM _ _ ?_
    walk_at "n"
    rw [rng_len]
    exact k


theorem at__law_ten (T : Txt K mg) (B : BaseT K mg base) (KX : K.In base) (PS : Sup P mf)  : FnAt P w K mg base 1 "_law_ten" ["_law_many"] sp__law_ten :=
  fn_at (c := c__law_ten) T.d__law_ten sc__law_ten (fun f cdv A outer s H E hr => by
    have nd := sc__law_ten.nd
    exact (css_cons (cs_set nd ce_i)
    (css_cons (cs_for hr.p rfl (ci_r1 T.n_range (ca_cons (ce_v 0) ca_nil)) (cg_n 2 nd)
    (css_one (cs_set nd (ce_op op_mulD (CE.bo (ce_v 1)) (CE.bo ce_i)))))
    (css_one (cs_ret (CE.bo (ce_v 1)))))))
    (fun ds hc Q E h => len__law_ten h) (fun ds hc Q E h => pure__law_ten h) (fun _ _ _ _ _ _ us hl => match us, hl with | [_], _ => rfl)

abbrev N__law_cut : List Str := ["_law_power_here", "_law_bits", "_law_num", "_law_den", "_law_shift"]
def c__law_cut : CSx :=
  (cSeq (cPar3 2 3 4 (cCons (cCall sp__law_ten (cCons (cV 0) cNil)) (cCons (cCall sp__law_ten (cCons (cOp subD (cC (.int 0)) (cV 0)) cNil)) (cCons (cC (.int 0)) cNil))))
    (cSeq (cWhile (cT (cOp geD (cV 2) (cOp shlD (cV 3) (cV 1))))
    (cPar 3 4 (cCons (cOp mulD (cC (.int 2)) (cV 3)) (cCons (cOp addD (cV 4) (cC (.int 1))) cNil))))
    (cSeq (cWhile (cT (cOp ltD (cV 2) (cOp shlD (cV 3) (cOp subD (cV 1) (cC (.int 1))))))
    (cPar 2 4 (cCons (cOp mulD (cC (.int 2)) (cV 2)) (cCons (cOp subD (cV 4) (cC (.int 1))) cNil))))
    (cRet (cTup (cCons (cV 0) (cCons (cOp fdivD (cV 2) (cV 3)) (cCons (cV 4) (cCons (cFn intFD (cCons (cOp neD (cV 2) (cOp mulD (cOp fdivD (cV 2) (cV 3)) (cV 3))) cNil)) cNil)))))))))

def sp__law_cut : Spc := fun ds hc Q _ => ∃ (p : Int) (bits : Nat), ds = [.int p, .int bits] ∧ p.natAbs ≤ 1000 ∧ 0 < bits ∧ bits ≤ 1000 ∧ ∀ g s : Int, CutAt p bits g s → s.natAbs ≤ 10000 → Q (.tup [.int p, .int g, .int s, .int (cutH p g s)]) hc
theorem len__law_cut {ds : List D} {hc : CH} {Q E} (h : sp__law_cut ds hc Q E) : ds.length = 2 := by
  obtain ⟨p, b, rfl, _⟩ := h
  rfl
theorem pure__law_cut {ds : List D} {hc : CH} {Q : D → CH → Prop} {E} (h : sp__law_cut ds hc Q E) : c__law_cut { nx := fun _ hc' => Q .non hc', rt := Q, xp := fun x _ hc' => E x hc' } (startC N__law_cut ds) hc := by
  obtain ⟨p, bits, rfl, hp, b0, b1, k⟩ := h
  unfold c__law_cut N__law_cut
  have p1 : (P10 p).natAbs < 2 ^ 4001 := P10_bits p 1000 (by omega)
  have p2 : (P10 (-p)).natAbs < 2 ^ 4001 := P10_bits (-p) 1000 (by omega)
  have g1 := P10_pos p
  have g2 := P10_pos (-p)
  refine seq_step fun M hM => ?_
  walk_at "n"
  refine ⟨p, rfl, by omega, ?_⟩
  walk_at "n"
  refine ⟨0 - p, rfl, by omega, ?_⟩
  rw [show 0 - p = -p by omega]
  walk_at "n"
  refine hM _ _ ?_
  -- the first loop
  refine seq_step fun M hM => ?_
  refine wh_inv (fun m sc hc1 => hc1 = hc ∧ ∃ k : Nat, m + k = 4500 ∧ (k = 0 ∨ P10 (-p) * 2 ^ k * 2 ^ (bits - 1) ≤ P10 p) ∧ sc = [.val (.int p), .val (.int bits), .val (.int (P10 p)), .val (.int (P10 (-p) * 2 ^ k)), .val (.int k)]) (fun m sc hc1 Nx I nx => ?_) (m := 4500) ⟨rfl, 0, rfl, .inl rfl, by rw [Int.pow_zero, Int.mul_one]; rfl⟩
  · obtain ⟨rfl, k1, hk, hle, rfl⟩ := I
    walk_at "n"
    have hk5 : k1 ≤ 4500 := by omega
    have db : (P10 (-p) * 2 ^ k1).natAbs < 2 ^ 8502 := shl_bits (s := k1) (b := 4500) p2 (by omega)
    refine ⟨shlOk (b := 1000) db (by omega) (by omega) (by omega), ?_⟩
    rw [show ((bits : Int)).toNat = bits from rfl]
    refine ite2 (fun h => ?_) (fun h => ?_)
    · have h := of_decide_eq_true h
      refine ⟨mulOk_l (by decide), ?_⟩
      have hm : 0 < m := by
        have h3 : (2 : Int) ^ k1 * 1 ≤ P10 (-p) * 2 ^ k1 * 2 ^ bits := by
          have a1 : (1 : Int) * 2 ^ k1 ≤ P10 (-p) * 2 ^ k1 := Int.mul_le_mul_of_nonneg_right (by omega) (Int.le_of_lt (Int.pow_pos (by decide)))
          have a2 : (P10 (-p) * 2 ^ k1) * 1 ≤ P10 (-p) * 2 ^ k1 * 2 ^ bits := Int.mul_le_mul_of_nonneg_left (Int.pow_pos (by decide)) (Int.mul_nonneg (Int.le_of_lt g2) (Int.le_of_lt (Int.pow_pos (by decide))))
          omega
        have h4 := natAbs_lt_two p1
        have h5 := two_le_exp (a := k1) (b := 4001) (by omega)
        omega
      refine nx (m - 1) _ _ (by omega) ⟨rfl, k1 + 1, by omega, .inr ?_, ?_⟩
      · have e : P10 (-p) * 2 ^ (k1 + 1) * 2 ^ (bits - 1) = P10 (-p) * 2 ^ k1 * 2 ^ bits := by
          rw [Int.mul_assoc, Int.mul_assoc, ← Int.pow_add, ← Int.pow_add, show k1 + 1 + (bits - 1) = k1 + bits by omega]
        rw [e]; exact h
      · rw [show 2 * (P10 (-p) * 2 ^ k1) = P10 (-p) * 2 ^ (k1 + 1) by rw [Int.pow_succ, Int.mul_comm 2, Int.mul_assoc]]
        rfl
    · have hh : ¬ P10 (-p) * 2 ^ k1 * 2 ^ bits ≤ P10 p := fun z => h (decide_eq_true z)
      refine hM _ _ ?_
      -- the second loop
      refine seq_step fun M hM => ?_
      have P0 : P10 p < P10 (-p) * 2 ^ k1 * 2 ^ bits := by omega
      refine wh_inv (fun m sc hc2 => hc2 = hc1 ∧ ∃ s : Int, (m : Int) = s + 9000 ∧ s ≤ 4500 ∧ P10 p * P2 (-s) < P10 (-p) * P2 s * 2 ^ bits ∧ (s ≤ 0 ∨ P10 (-p) * P2 s * 2 ^ (bits - 1) ≤ P10 p * P2 (-s)) ∧ sc = [.val (.int p), .val (.int bits), .val (.int (P10 p * P2 (-s))), .val (.int (P10 (-p) * P2 s)), .val (.int s)]) (fun m sc hc2 Nx I nx => ?_) (m := k1 + 9000) ⟨rfl, k1, by omega, by omega, ?_, ?_, ?_⟩
      · obtain ⟨rfl, s, hms, hs5, hlt, hor, rfl⟩ := I
        walk_at "n"
        have nb : (P10 p * P2 (-s)).natAbs < 2 ^ 13002 := shl_bits (b := 9000) p1 (by omega)
        have db : (P10 (-p) * P2 s).natAbs < 2 ^ 8502 := shl_bits (b := 4500) p2 (by omega)
        have dpos : 0 < P10 (-p) * P2 s := Int.mul_pos g2 (P2_pos s)
        refine ⟨shlOk (b := 1000) db (by omega) (by omega) (by omega), ?_⟩
        rw [show ((bits : Int) - 1).toNat = bits - 1 by omega]
        refine ite2 (fun h => ?_) (fun h => ?_)
        · have h := of_decide_eq_true h
          have s0 : s ≤ 0 := by rcases hor with h1 | h1 <;> omega
          refine ⟨mulOk_l (by decide), ?_⟩
          have hm : 0 < m := by
            rw [P2_nn s0, Int.mul_one] at h
            have h3 : (1 : Int) * P2 (-s) ≤ P10 p * P2 (-s) := Int.mul_le_mul_of_nonneg_right (by omega) (Int.le_of_lt (P2_pos _))
            have h4 : (P10 (-p) * 2 ^ (bits - 1)).natAbs < 2 ^ 5002 := shl_bits (s := (bits - 1 : Nat)) (b := 1000) p2 (by omega)
            have h5 := natAbs_lt_two h4
            have h6 := two_le_exp (a := (-s).toNat) (b := 5002) (show P2 (-s) < _ by omega)
            omega
          have e1 : P2 (-(s - 1)) = P2 (-s) * 2 := by
            unfold P2
            rw [show (-(s - 1)).toNat = (-s).toNat + 1 by omega, Int.pow_succ]
          have e2 : P2 (s - 1) = 1 := P2_nn (by omega)
          have e3 : P2 s = 1 := P2_nn (by omega)
          have e4 : (2 : Int) ^ bits = 2 ^ (bits - 1) * 2 := by rw [← Int.pow_succ, show (bits - 1).succ = bits by omega]
          refine nx (m - 1) _ _ (by omega) ⟨rfl, s - 1, by omega, by omega, ?_, .inl (by omega), ?_⟩
          · rw [e1, e2, e4, ← Int.mul_assoc, ← Int.mul_assoc]
            rw [e3] at h
            omega
          · rw [show 2 * (P10 p * P2 (-s)) = P10 p * P2 (-(s - 1)) by rw [e1, Int.mul_comm 2, Int.mul_assoc], e2, e3]
        · have h : P10 (-p) * P2 s * 2 ^ (bits - 1) ≤ P10 p * P2 (-s) := by
            have : ¬ P10 p * P2 (-s) < P10 (-p) * P2 s * 2 ^ (bits - 1) := fun z => h (decide_eq_true z)
            omega
          refine hM _ _ ?_
          walk_at "n"
          refine ⟨divOk 8502 dpos db (by omega), divOk 8502 dpos db (by omega), mulOk 13002 8502 (div_bits nb) db (by omega), ?_⟩
          walk_at "n"
          have gd := Int.mul_ediv_add_emod (P10 p * P2 (-s)) (P10 (-p) * P2 s)
          have gm := Int.emod_nonneg (P10 p * P2 (-s)) (show P10 (-p) * P2 s ≠ 0 by omega)
          have gl := Int.emod_lt_of_pos (P10 p * P2 (-s)) dpos
          revert gd gm gl
          generalize hg : P10 p * P2 (-s) / (P10 (-p) * P2 s) = g
          generalize P10 p * P2 (-s) % (P10 (-p) * P2 s) = r
          intro gd gm gl
          rw [Int.mul_comm (P10 (-p) * P2 s) g] at gd
          have e1 : (g + 1) * (P10 (-p) * P2 s) = g * (P10 (-p) * P2 s) + P10 (-p) * P2 s := by rw [Int.add_mul, Int.one_mul]
          have kk := k g s ⟨?_, ?_, by omega, by omega⟩ (by omega)
          · unfold cutH at kk
            by_cases hz : P10 p * P2 (-s) = g * (P10 (-p) * P2 s)
            · rw [if_pos hz] at kk
              rw [decide_eq_true hz]
              exact ⟨by decide, kk⟩
            · rw [if_neg hz] at kk
              rw [decide_eq_false hz]
              exact ⟨by decide, kk⟩
          · refine Int.le_of_lt_add_one (Int.lt_of_mul_lt_mul_right (a := P10 (-p) * P2 s) ?_ (Int.le_of_lt dpos))
            rw [e1, Int.mul_comm (2 ^ (bits - 1))]
            omega
          · refine Int.lt_of_mul_lt_mul_right (a := P10 (-p) * P2 s) ?_ (Int.le_of_lt dpos)
            rw [Int.mul_comm (2 ^ bits)]
            omega
      · rw [P2_nn (show -(k1 : Int) ≤ 0 by omega), Int.mul_one]
        exact P0
      · rcases hle with h0 | h0
        · left; omega
        · right
          rw [P2_nn (show -(k1 : Int) ≤ 0 by omega), Int.mul_one]
          exact h0
      · rw [P2_nn (show -(k1 : Int) ≤ 0 by omega), Int.mul_one]
        rfl


theorem at__law_cut (T : Txt K mg) (B : BaseT K mg base) (KX : K.In base) (PS : Sup P mf) (A__law_ten : FnAt P w K mg base 1 "_law_ten" ["_law_many"] sp__law_ten) : FnAt P w K mg base 2 "_law_cut" ["_law_power_here", "_law_bits"] sp__law_cut :=
  fn_at (c := c__law_cut) T.d__law_cut sc__law_cut (fun f cdv A outer s H E hr => by
    have nd := sc__law_cut.nd
    exact (css_cons (cs_par3 rfl nd (ca_cons (ce_f A__law_ten hr (ca_cons (ce_v 0) ca_nil)) (ca_cons (ce_f A__law_ten hr (ca_cons (ce_op op_subD (CE.bo ce_i) (CE.bo (ce_v 0))) ca_nil)) (ca_cons ce_i ca_nil))))
    (css_cons (cs_while hr.p (ct_cmp op_geD (CE.bo (ce_v 2)) (CE.bo (ce_op op_shlD (CE.bo (ce_v 3)) (CE.bo (ce_v 1)))))
    (css_one (cs_par rfl nd (ca_cons (ce_op op_mulD (CE.bo ce_i) (CE.bo (ce_v 3))) (ca_cons (ce_op op_addD (CE.bo (ce_v 4)) (CE.bo ce_i)) ca_nil)))))
    (css_cons (cs_while hr.p (ct_cmp op_ltD (CE.bo (ce_v 2)) (CE.bo (ce_op op_shlD (CE.bo (ce_v 3)) (CE.bo (ce_op op_subD (CE.bo (ce_v 1)) (CE.bo ce_i))))))
    (css_one (cs_par rfl nd (ca_cons (ce_op op_mulD (CE.bo ce_i) (CE.bo (ce_v 2))) (ca_cons (ce_op op_subD (CE.bo (ce_v 4)) (CE.bo ce_i)) ca_nil)))))
    (css_one (cs_ret (CE.bo (ce_tup (ca_cons (ce_v 0) (ca_cons (ce_op op_fdivD (CE.bo (ce_v 2)) (CE.bo (ce_v 3))) (ca_cons (ce_v 4) (ca_cons (ce_bt bt_int T.n_int (cba_cons (CE.bo (ce_cmp (op_neDD hr.g.units) (CE.bo (ce_v 2)) (CE.bo (ce_op op_mulD (CE.bo (ce_op op_fdivD (CE.bo (ce_v 2)) (CE.bo (ce_v 3)))) (CE.bo (ce_v 3)))))) cba_nil)) ca_nil))))))))))))
    (fun ds hc Q E h => len__law_cut h) (fun ds hc Q E h => pure__law_cut h) (fun _ _ _ _ _ _ us hl => match us, hl with | [_, _], _ => rfl)

abbrev N__law_row : List Str := ["_law_deck_here", "_law_power_here", "_law_bits", "_law_factor", "_law_shift", "_law_height", "_law_way"]
def c__law_row : CSx :=
  (cSeq (cAsg (cCall sp__law_cut (cCons (cV 1) (cCons (cV 2) cNil))) (gUn 4 (gCons' (gN 1) (gCons' (gN 3) (gCons' (gN 4) (gCons' (gN 5) gNil'))))))
    (cSeq (cAsg (cCall sp__law_draw (cCons (cV 0) (cCons (cC (.int 5)) cNil))) (gN 6))
    (cSeq (cIfS (cT (cOp ltD (cV 6) (cC (.int 2))))
    (cRet (cTup (cCons (cV 1) (cCons (cV 3) (cCons (cV 4) (cCons (cV 5) cNil))))))
    cNext)
    (cSeq (cIfS (cT (cOp eqD (cV 6) (cC (.int 2))))
    (cRet (cTup (cCons (cV 1) (cCons (cFn maxD2 (cCons (cC (.int 1)) (cCons (cOp subD (cV 3) (cCall sp__law_draw (cCons (cV 0) (cCons (cC (.int 3)) cNil)))) cNil))) (cCons (cV 4) (cCons (cCall sp__law_draw (cCons (cV 0) (cCons (cC (.int 4)) cNil))) cNil))))))
    cNext)
    (cSeq (cIfS (cT (cOp eqD (cV 6) (cC (.int 3))))
    (cRet (cTup (cCons (cV 1) (cCons (cFn maxD2 (cCons (cC (.int 1)) (cCons (cOp subD (cOp addD (cV 3) (cCall sp__law_draw (cCons (cV 0) (cCons (cC (.int 5)) cNil)))) (cC (.int 2))) cNil))) (cCons (cV 4) (cCons (cCall sp__law_draw (cCons (cV 0) (cCons (cC (.int 4)) cNil))) cNil))))))
    cNext)
    (cRet (cTup (cCons (cV 1) (cCons (cOp addD (cC (.int 1)) (cCall sp__law_draw (cCons (cV 0) (cCons (cC (.int 20)) cNil)))) (cCons (cOp subD (cOp addD (cV 4) (cCall sp__law_draw (cCons (cV 0) (cCons (cC (.int 41)) cNil)))) (cC (.int 20))) (cCons (cCall sp__law_draw (cCons (cV 0) (cCons (cC (.int 4)) cNil))) cNil)))))))))))

/-! ### stairs: exponents by the logarithm -/
def expF (p l h n d : Int) : Int := if (if flogF n d - p + 1 > l then flogF n d - p + 1 else l) < h + 1 then (if flogF n d - p + 1 > l then flogF n d - p + 1 else l) else h + 1
theorem expF_lo {p l h n d : Int} (f : Fm p l h) : l ≤ expF p l h n d := by
  have := f.lh
  unfold expF
  generalize flogF n d = t
  split <;> split at * <;> omega
theorem expF_hi {p l h n d : Int} : expF p l h n d ≤ h + 1 := by
  unfold expF
  generalize flogF n d = t
  split <;> split at * <;> omega
theorem expF_at {p l h n d : Int} (f : Fm p l h) (n0 : 0 < n) (d0 : 0 < d) (e : expF p l h n d ≤ h) : ExpAt p l h n d (expF p l h n d) := by
  obtain ⟨a, b⟩ := flogF_FL n0 d0
  have lh := f.lh
  revert e
  unfold expF
  generalize flogF n d = t at *
  intro e
  by_cases z : t - p + 1 > l
  · rw [if_pos z] at e ⊢
    by_cases y : t - p + 1 < h + 1
    · rw [if_pos y] at e ⊢
      refine ⟨by omega, by omega, fun g x => b (x.down d0 (by omega)), fun g => ?_⟩
      rw [show p + (t - p + 1) - 1 = t by omega]
      exact a
    · rw [if_neg y] at e
      omega
  · rw [if_neg z] at e ⊢
    rw [if_pos (by omega)] at e ⊢
    exact ⟨by omega, by omega, fun g x => b (x.down d0 (by omega)), fun g => by omega⟩
theorem expF_top {p l h n d : Int} (f : Fm p l h) (n0 : 0 < n) (d0 : 0 < d) (e : ¬ expF p l h n d ≤ h) : AtM n d (p + h) := by
  obtain ⟨a, b⟩ := flogF_FL n0 d0
  have lh := f.lh
  revert e
  unfold expF
  generalize flogF n d = t at *
  intro e
  by_cases z : t - p + 1 > l
  · rw [if_pos z] at e
    by_cases y : t - p + 1 < h + 1
    · rw [if_pos y] at e
      omega
    · exact a.down d0 (by omega)
  · rw [if_neg z, if_pos (by omega)] at e
    omega
theorem shl_max {d e : Int} {a : Nat} (hd : d.natAbs < 2 ^ a) (he : e ≤ 1200) (ha : a ≤ 900000) : CShl d (if e > 0 then e else 0) := by
  by_cases z : e > 0
  · rw [if_pos z]
    exact shlOk (b := 1200) hd (by omega) (by omega) (by omega)
  · rw [if_neg z]
    exact shlOk (b := 1200) hd (by omega) (by omega) (by omega)
theorem shl_maxB {d e : Int} {a : Nat} (hd : d.natAbs < 2 ^ a) (he : e ≤ 4400) (ha : a ≤ 900000) : CShl d (if e > 0 then e else 0) := by
  by_cases z : e > 0
  · rw [if_pos z]
    exact shlOk (b := 4400) hd (by omega) (by omega) (by omega)
  · rw [if_neg z]
    exact shlOk (b := 4400) hd (by omega) (by omega) (by omega)
theorem p2_max (e : Int) : (2 : Int) ^ (if e > 0 then e else 0).toNat = P2 e := by
  unfold P2
  by_cases z : e > 0
  · rw [if_pos z]
  · rw [if_neg z, show e.toNat = 0 by omega]
    rfl
/-! the lines that read a position -/
abbrev lnD (a b c : Int) : D := .tup [.int a, .int b, .int c]
def rdL (w : Str) (a b c : Int) : List D := if w = "even" then [lnD (2 * a) (2 * b + c) (4 * c), lnD (2 * a) (2 * b + 3 * c - 1) (4 * c)] else if w = "away" then [lnD (2 * a) (2 * b + c) (2 * c)] else if w = "zero" then [lnD a b c] else if w = "out" then [lnD a (b + c - 1) c] else [lnD a b (2 * c), lnD a (b + 2 * c - 1) (2 * c)]
def upL (w : Str) (a b c : Int) : List D := if w = "even" then [lnD (2 * a) (2 * b + c) (2 * c)] else if w = "away" then [lnD (2 * a) (2 * b + c) (2 * c)] else if w = "zero" then [lnD a b c] else if w = "out" then [lnD a (b + c) c] else [lnD a b (2 * c), lnD a (b + 2 * c) (2 * c)]
/-- the code beyond the greatest number -/
def bynd (w : Str) (p l h : Int) : Int := if w = "zero" then cntI p l h - 1 else if w = "odd" then cntI p l h - 1 + cntI p l h % 2 else cntI p l h
/-- whether a stair reads at, or from just above -/
def stL (up : Bool) (w : Str) (a b c : Int) : List D := if up then upL w a b c else rdL w a b c
def stN (up : Bool) : Str := if up then "up_stair" else "read_stair"
def stairL (up : Bool) (w : Str) (p l h n d e : Int) : List D := if e ≤ h then stL up w (n * P2 (-e)) ((e - l) * halfI p * (d * P2 e)) (d * P2 e) else [lnD 0 (bynd w p l h) 1]
/-- lines as numbers -/
abbrev Ln : Type := Int × Int × Int
def lnsD (ls : List Ln) : List D := ls.map fun z => lnD z.1 z.2.1 z.2.2
def lnV (z : Ln) (x : Int) : Int := (z.1 * x + z.2.1) / z.2.2
def stV : List Ln → Int → Int
  | [], _ => 0
  | z :: r, x => lnV z x + stV r x
theorem stV_sum {x : Int} : ∀ ls : List Ln, (ls.map fun z => lnV z x).sum = stV ls x
  | [] => rfl
  | z :: r => by
    rw [List.map_cons, List.sum_cons, stV_sum r]
    rfl
def rdZ (w : Str) (a b c : Int) : List Ln := if w = "even" then [(2 * a, 2 * b + c, 4 * c), (2 * a, 2 * b + 3 * c - 1, 4 * c)] else if w = "away" then [(2 * a, 2 * b + c, 2 * c)] else if w = "zero" then [(a, b, c)] else if w = "out" then [(a, b + c - 1, c)] else [(a, b, 2 * c), (a, b + 2 * c - 1, 2 * c)]
def upZ (w : Str) (a b c : Int) : List Ln := if w = "even" then [(2 * a, 2 * b + c, 2 * c)] else if w = "away" then [(2 * a, 2 * b + c, 2 * c)] else if w = "zero" then [(a, b, c)] else if w = "out" then [(a, b + c, c)] else [(a, b, 2 * c), (a, b + 2 * c, 2 * c)]
theorem rdZ_ok {w : Str} {a b c : Int} : lnsD (rdZ w a b c) = rdL w a b c := by
  unfold rdZ rdL
  repeat' split
  all_goals rfl
theorem upZ_ok {w : Str} {a b c : Int} : lnsD (upZ w a b c) = upL w a b c := by
  unfold upZ upL
  repeat' split
  all_goals rfl
theorem rd_st {w : Str} {a b c x : Int} (c0 : 0 < c) : stV (rdZ w a b c) x = rndI w (a * x + b) c := by
  have ex : 2 * a * x = 2 * (a * x) := Int.mul_assoc ..
  have eq := Int.mul_ediv_add_emod (a * x + b) c
  have r0 := Int.emod_nonneg (a * x + b) (show c ≠ 0 by omega)
  have r1 := Int.emod_lt_of_pos (a * x + b) c0
  unfold rdZ rndI
  generalize ha : a * x = y at *
  generalize hq : (y + b) / c = q at *
  generalize hr : (y + b) % c = r at *
  split
  · show (2 * a * x + (2 * b + c)) / (4 * c) + ((2 * a * x + (2 * b + 3 * c - 1)) / (4 * c) + 0) = _
    unfold nearI
    rw [ex, hq, hr]
    obtain ⟨k, hk⟩ : ∃ k, q = 2 * k ∨ q = 2 * k + 1 := ⟨q / 2, by omega⟩
    rcases hk with hk | hk
    · have e1 : c * q = 2 * (k * c) := by rw [hk, Int.mul_left_comm, Int.mul_comm c k]
      have d1 : (2 * y + (2 * b + c)) / (4 * c) = k := div_at (by omega) (by rw [Int.mul_left_comm]; omega) (by rw [Int.add_mul, Int.mul_left_comm]; omega)
      have d2 : (2 * y + (2 * b + 3 * c - 1)) / (4 * c) = k + if 2 * r > c then 1 else 0 := by
        split
        · exact div_at (by omega) (by rw [Int.add_mul, Int.mul_left_comm]; omega) (by rw [Int.add_mul, Int.add_mul, Int.mul_left_comm]; omega)
        · rw [Int.add_zero]
          exact div_at (by omega) (by rw [Int.mul_left_comm]; omega) (by rw [Int.add_mul, Int.mul_left_comm]; omega)
      rw [d1, d2]
      by_cases z : 2 * r > c
      · rw [if_pos z, if_pos (.inl z)]
        omega
      · rw [if_neg z, if_neg (by omega)]
        omega
    · have e1 : c * q = 2 * (k * c) + c := by rw [hk, Int.mul_add, Int.mul_left_comm, Int.mul_comm c k, Int.mul_one]
      have d1 : (2 * y + (2 * b + c)) / (4 * c) = k + if 2 * r ≥ c then 1 else 0 := by
        split
        · exact div_at (by omega) (by rw [Int.add_mul, Int.mul_left_comm]; omega) (by rw [Int.add_mul, Int.add_mul, Int.mul_left_comm]; omega)
        · rw [Int.add_zero]
          exact div_at (by omega) (by rw [Int.mul_left_comm]; omega) (by rw [Int.add_mul, Int.mul_left_comm]; omega)
      have d2 : (2 * y + (2 * b + 3 * c - 1)) / (4 * c) = k + 1 := div_at (by omega) (by rw [Int.add_mul, Int.mul_left_comm]; omega) (by rw [Int.add_mul, Int.add_mul, Int.mul_left_comm]; omega)
      rw [d1, d2]
      by_cases z : 2 * r ≥ c
      · rw [if_pos z, if_pos (by omega)]
        omega
      · rw [if_neg z, if_neg (by omega)]
        omega
  split
  · show (2 * a * x + (2 * b + c)) / (2 * c) + 0 = _
    rw [ex, Int.add_zero, show 2 * (y + b) + c = 2 * y + (2 * b + c) by omega]
  split
  · show (a * x + b) / c + 0 = _
    rw [Int.add_zero, ha]
    exact hq
  split
  · show (a * x + (b + c - 1)) / c + 0 = _
    rw [Int.add_zero, ha]
    have e1 : q * c = c * q := Int.mul_comm ..
    by_cases z : r = 0
    · rw [ceil_eq c0 (c := q) (by omega)]
      exact div_at c0 (by omega) (by rw [Int.add_mul]; omega)
    · rw [ceil_at c0 (c := q) (by omega) (by rw [Int.add_mul]; omega)]
      exact div_at c0 (by rw [Int.add_mul]; omega) (by rw [Int.add_mul, Int.add_mul]; omega)
  · show (a * x + b) / (2 * c) + ((a * x + (b + 2 * c - 1)) / (2 * c) + 0) = _
    rw [ha]
    obtain ⟨k, hk⟩ : ∃ k, q = 2 * k ∨ q = 2 * k + 1 := ⟨q / 2, by omega⟩
    rcases hk with hk | hk
    · have e1 : c * q = 2 * (k * c) := by rw [hk, Int.mul_left_comm, Int.mul_comm c k]
      have d1 : (y + b) / (2 * c) = k := div_at (by omega) (by rw [Int.mul_left_comm]; omega) (by rw [Int.add_mul, Int.mul_left_comm]; omega)
      have d2 : (y + (b + 2 * c - 1)) / (2 * c) = k + if r = 0 then 0 else 1 := by
        split
        · rw [Int.add_zero]
          exact div_at (by omega) (by rw [Int.mul_left_comm]; omega) (by rw [Int.add_mul, Int.mul_left_comm]; omega)
        · exact div_at (by omega) (by rw [Int.add_mul, Int.mul_left_comm]; omega) (by rw [Int.add_mul, Int.add_mul, Int.mul_left_comm]; omega)
      rw [d1, d2]
      by_cases z : r = 0
      · rw [if_pos z, if_pos z]
        omega
      · rw [if_neg z, if_neg z]
        omega
    · have e1 : c * q = 2 * (k * c) + c := by rw [hk, Int.mul_add, Int.mul_left_comm, Int.mul_comm c k, Int.mul_one]
      have d1 : (y + b) / (2 * c) = k := div_at (by omega) (by rw [Int.mul_left_comm]; omega) (by rw [Int.add_mul, Int.mul_left_comm]; omega)
      have d2 : (y + (b + 2 * c - 1)) / (2 * c) = k + 1 := div_at (by omega) (by rw [Int.add_mul, Int.mul_left_comm]; omega) (by rw [Int.add_mul, Int.add_mul, Int.mul_left_comm]; omega)
      rw [d1, d2]
      by_cases z : r = 0
      · rw [if_pos z]
        omega
      · rw [if_neg z]
        omega
/-! ### what a stair tells -/
theorem at_half {p N d e : Int} (p0 : 1 ≤ p) : AtM N d (p + e) ↔ 2 * halfI p * posW d e ≤ N * P2 (-e) := by
  have z := atM_shift (num := N) (den := d) (s := e) p.toNat
  rw [show e + (p.toNat : Int) = p + e by omega, halfI_two p0] at z
  exact z
theorem expF_up {p l h n d : Int} (f : Fm p l h) (n0 : 0 < n) (d0 : 0 < d) (e : expF p l h n d ≤ h) : ¬ AtM n d (p + expF p l h n d) := by
  obtain ⟨a, b⟩ := flogF_FL n0 d0
  have lh := f.lh
  revert e
  unfold expF
  generalize flogF n d = t at *
  intro e
  by_cases z : t - p + 1 > l
  · rw [if_pos z] at e ⊢
    by_cases y : t - p + 1 < h + 1
    · rw [if_pos y] at e ⊢
      exact fun x => b (x.down d0 (by omega))
    · rw [if_neg y] at e
      omega
  · rw [if_neg z] at e ⊢
    rw [if_pos (by omega)] at e ⊢
    exact fun x => b (x.down d0 (by omega))
theorem cnt_two {p l h : Int} : cntI p l h = (h - l) * halfI p + 2 * halfI p := by
  unfold cntI
  rw [Int.add_mul]
theorem readI_ge {w : Str} {c s : Int} : c ≤ readI w c s := by
  unfold readI
  split
  · omega
  split
  · split <;> omega
  split
  · split <;> omega
  split
  · omega
  split
  · omega
  · omega
theorem bynd_rd {w : Str} {p l h N W : Int} (f : Fm p l h) (W0 : 0 < W) (b : cntI p l h * W ≤ N) : bynd w p l h = rdI w (cntI p l h - 1) N W := by
  have lo : N / W * W ≤ N := by
    have := Int.mul_ediv_add_emod N W
    have := Int.emod_nonneg N (show W ≠ 0 by omega)
    rw [Int.mul_comm]
    omega
  have up : N < (N / W + 1) * W := by
    have := Int.mul_ediv_add_emod N W
    have := Int.emod_lt_of_pos N W0
    rw [Int.add_mul, Int.mul_comm]
    omega
  have g : cntI p l h ≤ N / W := (Int.le_ediv_iff_mul_le W0).mpr b
  have r := rnd_code (w := w) W0 lo up
  have ge := readI_ge (w := w) (c := N / W) (s := sideN (N / W) N W)
  unfold rdI
  rw [if_neg (show ¬ N ≤ (cntI p l h - 1) * W by rw [Int.sub_mul, Int.one_mul]; omega)]
  unfold bynd
  by_cases z : w = "zero"
  · rw [if_pos z, if_pos z]
  rw [if_neg z, if_neg z]
  by_cases o : w = "odd"
  · rw [if_pos o, if_pos o]
    omega
  · rw [if_neg o, if_neg o, if_neg (by rw [r]; omega)]
    omega
def stairZ (up : Bool) (w : Str) (p l h n d e : Int) : List Ln := if e ≤ h then (if up then upZ w else rdZ w) (n * P2 (-e)) ((e - l) * halfI p * (d * P2 e)) (d * P2 e) else [(0, bynd w p l h, 1)]
theorem stairZ_ok {up : Bool} {w : Str} {p l h n d e : Int} : lnsD (stairZ up w p l h n d e) = stairL up w p l h n d e := by
  unfold stairZ stairL
  split
  · unfold stL
    cases up
    · exact rdZ_ok
    · exact upZ_ok
  · rfl
theorem told_rd {w : Str} {p l h n d x c : Int} (f : Fm p l h) (hw : IsWay w) (n0 : 0 < n * x) (d0 : 0 < d) (fl : FlAt p l h (unA (n * x) l) (unB d l) c) : stV (stairZ false w p l h n d (expF p l h (n * x) d)) x = readI w c (sideU p c (unA (n * x) l) (unB d l)) := by
  unfold stairZ
  by_cases z : expF p l h (n * x) d ≤ h
  · have ex := expF_at f n0 d0 z
    have nu := expF_up f n0 d0 z
    have e0 := ex.lo
    revert ex nu
    generalize expF p l h (n * x) d = e at *
    intro ex nu
    rw [if_pos z]
    obtain ⟨W0, lo, eq, up⟩ := pos_at f d0 fl ex
    show stV (rdZ w (n * P2 (-e)) ((e - l) * halfI p * (d * P2 e)) (d * P2 e)) x = _
    rw [rd_st W0, show n * P2 (-e) * x + (e - l) * halfI p * (d * P2 e) = posN p l (n * x) d e by
      unfold posN
      rw [Int.mul_right_comm, Int.add_comm]]
    refine (rnd_code W0 lo ?_).trans (by rw [side_eq f d0 fl ex])
    by_cases y : c + 1 < cntI p l h
    · exact up y
    · have c1 := fl.c1
      have q := fun u => nu ((at_half f.p0).mpr u)
      rw [show c + 1 = cntI p l h by omega, cnt_two, Int.add_mul]
      unfold posN
      have m := Int.mul_le_mul_of_nonneg_right (show e - l ≤ h - l by omega) (Int.le_of_lt (halfI_pos p))
      have m2 := Int.mul_le_mul_of_nonneg_right m (Int.le_of_lt W0)
      have q := Int.not_le.mp q
      exact Int.lt_of_lt_of_le (Int.add_lt_add_left q _) (Int.add_le_add_right m2 _)
  · have tp := expF_top f n0 d0 z
    rw [if_neg z]
    show (0 * x + bynd w p l h) / 1 + 0 = _
    rw [Int.zero_mul, Int.zero_add, Int.ediv_one, Int.add_zero]
    have exh : ExpAt p l h (n * x) d h := ⟨f.lh, Int.le_refl _, fun g => by omega, fun _ => tp.down d0 (by omega)⟩
    rw [← read_code hw f d0 fl exh]
    refine bynd_rd f (Int.mul_pos d0 (P2_pos h)) ?_
    rw [cnt_two, Int.add_mul]
    exact Int.add_le_add_left ((at_half f.p0).mp tp) _
/-! ### from just above -/
def upI (w : Str) (c s : Int) : Int := if w = "even" ∨ w = "away" then c + (if s ≥ 2 then 1 else 0) else if w = "zero" then c else if w = "out" then c + 1 else c + 1 - c % 2
theorem up_st {w : Str} {a b W x c : Int} (W0 : 0 < W) (lo : c * W ≤ a * x + b) (up : a * x + b < (c + 1) * W) : stV (upZ w a b W) x = upI w c (sideN c (a * x + b) W) := by
  have ex : 2 * a * x = 2 * (a * x) := Int.mul_assoc ..
  have up : a * x + b < c * W + W := by rw [Int.add_mul, Int.one_mul] at up; exact up
  have e2 : c * (2 * W) = 2 * (c * W) := Int.mul_left_comm ..
  have e3 : (c + 1) * (2 * W) = 2 * (c * W) + 2 * W := by rw [Int.add_mul, e2, Int.one_mul]
  have e4 : (c + 1 + 1) * (2 * W) = 2 * (c * W) + 4 * W := by rw [Int.add_mul, e3, Int.one_mul]; omega
  have half : (2 * (a * x) + (2 * b + W)) / (2 * W) = c + if sideN c (a * x + b) W ≥ 2 then 1 else 0 := by
    have s : sideN c (a * x + b) W ≥ 2 ↔ 2 * (a * x + b - c * W) ≥ W := by
      unfold sideN
      split
      · omega
      · split
        · omega
        · split <;> omega
    split
    · next z =>
      have z := s.mp z
      exact div_at (by omega) (by rw [e3]; omega) (by rw [e4]; omega)
    · next z =>
      have z := fun y => z (s.mpr y)
      rw [Int.add_zero]
      exact div_at (by omega) (by rw [e2]; omega) (by rw [e3]; omega)
  unfold upZ upI
  by_cases h1 : w = "even"
  · rw [if_pos h1, if_pos (.inl h1)]
    show (2 * a * x + (2 * b + W)) / (2 * W) + 0 = _
    rw [ex, Int.add_zero]
    exact half
  by_cases h2 : w = "away"
  · rw [if_neg h1, if_pos h2, if_pos (.inr h2)]
    show (2 * a * x + (2 * b + W)) / (2 * W) + 0 = _
    rw [ex, Int.add_zero]
    exact half
  rw [if_neg h1, if_neg h2, if_neg (show ¬ (w = "even" ∨ w = "away") from fun y => y.elim h1 h2)]
  by_cases h3 : w = "zero"
  · rw [if_pos h3, if_pos h3]
    show (a * x + b) / W + 0 = _
    rw [Int.add_zero]
    exact div_at W0 lo (by rw [Int.add_mul]; omega)
  rw [if_neg h3, if_neg h3]
  by_cases h4 : w = "out"
  · rw [if_pos h4, if_pos h4]
    show (a * x + (b + W)) / W + 0 = _
    rw [Int.add_zero]
    exact div_at W0 (by rw [Int.add_mul]; omega) (by rw [Int.add_mul, Int.add_mul]; omega)
  rw [if_neg h4, if_neg h4]
  show (a * x + b) / (2 * W) + ((a * x + (b + 2 * W)) / (2 * W) + 0) = _
  obtain ⟨k, hk⟩ : ∃ k, c = 2 * k ∨ c = 2 * k + 1 := ⟨c / 2, by omega⟩
  have e1 : c * W = 2 * (k * W) ∨ c * W = 2 * (k * W) + W := by
    rcases hk with rfl | rfl
    · exact .inl (Int.mul_assoc ..)
    · refine .inr ?_
      rw [Int.add_mul, Int.mul_assoc, Int.one_mul]
  have e1 : 2 * (k * W) ≤ a * x + b ∧ a * x + b < 2 * (k * W) + 2 * W := by omega
  have d1 : (a * x + b) / (2 * W) = k := div_at (by omega) (by rw [Int.mul_left_comm]; omega) (by rw [Int.add_mul, Int.mul_left_comm]; omega)
  have d2 : (a * x + (b + 2 * W)) / (2 * W) = k + 1 := div_at (by omega) (by rw [Int.add_mul, Int.mul_left_comm]; omega) (by rw [Int.add_mul, Int.add_mul, Int.mul_left_comm]; omega)
  rw [d1, d2]
  omega
theorem bynd_up {w : Str} {p l h N W : Int} (hw : IsWay w) (W0 : 0 < W) (b : cntI p l h * W ≤ N) : bynd w p l h = upI w (cntI p l h - 1) (sideN (cntI p l h - 1) N W) := by
  have s : sideN (cntI p l h - 1) N W ≥ 2 := by
    have e : (cntI p l h - 1) * W = cntI p l h * W - W := by rw [Int.sub_mul, Int.one_mul]
    unfold sideN
    rw [e]
    split
    · omega
    · split
      · omega
      · split <;> omega
  unfold bynd upI
  rcases hw with rfl | rfl | rfl | rfl | rfl
  · rw [if_neg (by decide), if_neg (by decide), if_pos (.inl rfl), if_pos s]; omega
  · rw [if_neg (by decide), if_neg (by decide), if_pos (.inr rfl), if_pos s]; omega
  · rw [if_pos rfl, if_neg (by decide), if_pos rfl]
  · rw [if_neg (by decide), if_neg (by decide), if_neg (by decide), if_neg (by decide), if_pos rfl]; omega
  · rw [if_neg (by decide), if_pos rfl, if_neg (by decide), if_neg (by decide), if_neg (by decide)]; omega
theorem told_up {w : Str} {p l h n d x c : Int} (f : Fm p l h) (hw : IsWay w) (n0 : 0 < n * x) (d0 : 0 < d) (fl : FlAt p l h (unA (n * x) l) (unB d l) c) : stV (stairZ true w p l h n d (expF p l h (n * x) d)) x = upI w c (sideU p c (unA (n * x) l) (unB d l)) := by
  unfold stairZ
  by_cases z : expF p l h (n * x) d ≤ h
  · have ex := expF_at f n0 d0 z
    have nu := expF_up f n0 d0 z
    have e0 := ex.lo
    revert ex nu
    generalize expF p l h (n * x) d = e at *
    intro ex nu
    rw [if_pos z]
    obtain ⟨W0, lo, eq, up⟩ := pos_at f d0 fl ex
    show stV (upZ w (n * P2 (-e)) ((e - l) * halfI p * (d * P2 e)) (d * P2 e)) x = _
    have eN : n * P2 (-e) * x + (e - l) * halfI p * (d * P2 e) = posN p l (n * x) d e := by
      unfold posN
      rw [Int.mul_right_comm, Int.add_comm]
    refine (up_st (c := c) W0 (by rw [eN]; exact lo) ?_).trans (by rw [eN, side_eq f d0 fl ex])
    rw [eN]
    by_cases y : c + 1 < cntI p l h
    · exact up y
    · have c1 := fl.c1
      have q := fun u => nu ((at_half f.p0).mpr u)
      rw [show c + 1 = cntI p l h by omega, cnt_two, Int.add_mul]
      unfold posN
      have m := Int.mul_le_mul_of_nonneg_right (show e - l ≤ h - l by omega) (Int.le_of_lt (halfI_pos p))
      have m2 := Int.mul_le_mul_of_nonneg_right m (Int.le_of_lt W0)
      have q := Int.not_le.mp q
      exact Int.lt_of_lt_of_le (Int.add_lt_add_left q _) (Int.add_le_add_right m2 _)
  · have tp := expF_top f n0 d0 z
    rw [if_neg z]
    show (0 * x + bynd w p l h) / 1 + 0 = _
    rw [Int.zero_mul, Int.zero_add, Int.ediv_one, Int.add_zero]
    have exh : ExpAt p l h (n * x) d h := ⟨f.lh, Int.le_refl _, fun g => by omega, fun _ => tp.down d0 (by omega)⟩
    have b : cntI p l h * posW d h ≤ posN p l (n * x) d h := by
      rw [cnt_two, Int.add_mul]
      exact Int.add_le_add_left ((at_half f.p0).mp tp) _
    have W0 : 0 < posW d h := Int.mul_pos d0 (P2_pos h)
    obtain ⟨_, lo, eq, up⟩ := pos_at f d0 fl exh
    have ec : c = cntI p l h - 1 := by
      have c1 := fl.c1
      refine Decidable.byContradiction fun g => ?_
      have u := up (by omega)
      have m := Int.mul_le_mul_of_nonneg_right (show c + 1 ≤ cntI p l h by omega) (Int.le_of_lt W0)
      omega
    rw [bynd_up hw W0 b, ← ec, side_eq f d0 fl exh]
/-- what a stair tells, by its kind -/
def toldI (up : Bool) (w : Str) (c s : Int) : Int := if up then upI w c s else readI w c s
theorem told_at {up : Bool} {w : Str} {p l h n d x c : Int} (f : Fm p l h) (hw : IsWay w) (n0 : 0 < n * x) (d0 : 0 < d) (fl : FlAt p l h (unA (n * x) l) (unB d l) c) : stV (stairZ up w p l h n d (expF p l h (n * x) d)) x = toldI up w c (sideU p c (unA (n * x) l) (unB d l)) := by
  cases up
  · exact told_rd f hw n0 d0 fl
  · exact told_up f hw n0 d0 fl
theorem stairZ_len {up : Bool} {w : Str} {p l h n d e : Int} : (stairZ up w p l h n d e).length ≤ 2 := by
  unfold stairZ
  split
  · cases up
    · show (rdZ w _ _ _).length ≤ 2
      unfold rdZ
      repeat' split
      all_goals simp
    · show (upZ w _ _ _).length ≤ 2
      unfold upZ
      repeat' split
      all_goals simp
  · simp
theorem tw_bits {a : Int} {k : Nat} (h : a.natAbs < 2 ^ k) : (2 * a).natAbs < 2 ^ (k + 1) := by
  rw [Int.natAbs_mul, Nat.pow_succ]
  show 2 * a.natAbs < 2 ^ k * 2
  omega
theorem ln_good {a b c x y z : Int} (c0 : 0 < c) (ha : a.natAbs < 2 ^ 4501) (hc : c.natAbs < 2 ^ 4501) (hx : x.natAbs < 2 ^ 300) (h1 : y = a ∨ y = 2 * a) (h2 : z = c ∨ z = 2 * c ∨ z = 4 * c) : Mn.MulOk y x ∧ DivOk (y * x + b) z := by
  have a2 : (2 * a).natAbs < 2 ^ 4502 := tw_bits ha
  have c2 : (2 * c).natAbs < 2 ^ 4502 := tw_bits hc
  have c4 : (4 * c).natAbs < 2 ^ 4503 := by
    rw [show 4 * c = 2 * (2 * c) by omega]
    exact tw_bits c2
  refine ⟨?_, ?_⟩
  · rcases h1 with rfl | rfl
    · exact mulOk 4501 300 ha hx (by decide)
    · exact mulOk 4502 300 a2 hx (by decide)
  · rcases h2 with rfl | rfl | rfl
    · exact divOk 4501 c0 hc (by decide)
    · exact divOk 4502 (by omega) c2 (by decide)
    · exact divOk 4503 (by omega) c4 (by decide)
theorem stairZ_sz {up : Bool} {w : Str} {p l h n d e x : Int} (d0 : 0 < d) (hn : (n * P2 (-e)).natAbs < 2 ^ 4501) (hd : e ≤ h → (d * P2 e).natAbs < 2 ^ 4501) (hx : x.natAbs < 2 ^ 300) : ∀ z ∈ stairZ up w p l h n d e, Mn.MulOk z.1 x ∧ DivOk (z.1 * x + z.2.1) z.2.2 := by
  have W0 : 0 < d * P2 e := Int.mul_pos d0 (P2_pos e)
  intro z hz
  unfold stairZ at hz
  split at hz
  · rename_i eh
    have hd := hd eh
    cases up
    · have hz : z ∈ rdZ w (n * P2 (-e)) ((e - l) * halfI p * (d * P2 e)) (d * P2 e) := hz
      unfold rdZ at hz
      repeat' split at hz
      all_goals
        simp only [List.mem_cons, List.not_mem_nil, or_false] at hz
        first
          | (rcases hz with rfl | rfl <;> exact ln_good W0 hn hd hx (by first | exact .inl rfl | exact .inr rfl) (by first | exact .inl rfl | exact .inr (.inl rfl) | exact .inr (.inr rfl)))
          | (subst hz; exact ln_good W0 hn hd hx (by first | exact .inl rfl | exact .inr rfl) (by first | exact .inl rfl | exact .inr (.inl rfl) | exact .inr (.inr rfl)))
    · have hz : z ∈ upZ w (n * P2 (-e)) ((e - l) * halfI p * (d * P2 e)) (d * P2 e) := hz
      unfold upZ at hz
      repeat' split at hz
      all_goals
        simp only [List.mem_cons, List.not_mem_nil, or_false] at hz
        first
          | (rcases hz with rfl | rfl <;> exact ln_good W0 hn hd hx (by first | exact .inl rfl | exact .inr rfl) (by first | exact .inl rfl | exact .inr (.inl rfl) | exact .inr (.inr rfl)))
          | (subst hz; exact ln_good W0 hn hd hx (by first | exact .inl rfl | exact .inr rfl) (by first | exact .inl rfl | exact .inr (.inl rfl) | exact .inr (.inr rfl)))
  · simp only [List.mem_cons, List.not_mem_nil, or_false] at hz
    subst hz
    show Mn.MulOk 0 x ∧ DivOk (0 * x + bynd w p l h) 1
    exact ⟨mulOk_l (by decide), divOk 2 (by decide) (by decide) (by decide)⟩
/-- a row that a run may have -/
structure RwOk (q f s h : Int) : Prop where
  qb : q.natAbs ≤ 1000
  f0 : 0 < f
  fb : f.natAbs < 2 ^ 290
  h0 : 0 ≤ h
  fhb : (f + h).natAbs < 2 ^ 290
  sb : s.natAbs ≤ 3000
theorem RwOk.sl {q f s h : Int} (r : RwOk q f s h) : (f * P2 s).natAbs < 2 ^ 3300 ∧ (P2 (-s)).natAbs < 2 ^ 3300 ∧ ((f + h) * P2 s).natAbs < 2 ^ 3300 := by
  have b := P2_bits s 3000 (by have := r.sb; omega)
  exact ⟨up_pow 3300 (mul_pow r.fb b) (by decide), up_pow 3300 (P2_bits (-s) 3000 (by have := r.sb; omega)) (by decide), up_pow 3300 (mul_pow r.fhb b) (by decide)⟩


/-! ### the law's own reading: num / den in units of 2 ^ l -/
theorem fl_scl {p l h A B A' B' c : Int} (B0 : 0 < B) (B1 : 0 < B') (e : A * B' = A' * B) (x : FlAt p l h A B c) : FlAt p l h A' B' c := by
  refine ⟨x.c0, x.c1, ?_, fun g => ?_⟩
  · have a := Int.mul_le_mul_of_nonneg_right x.lo (Int.le_of_lt B1)
    rw [e, Int.mul_right_comm] at a
    exact Int.le_of_mul_le_mul_right a B0
  · have a := Int.mul_lt_mul_of_pos_right (x.up g) B1
    rw [e, Int.mul_right_comm] at a
    exact Int.lt_of_mul_lt_mul_right a (Int.le_of_lt B0)
theorem side_scl {p c A B A' B' : Int} (B0 : 0 < B) (B1 : 0 < B') (e : A * B' = A' * B) : sideU p c A' B' = sideU p c A B := by
  have e1 : (A - uV p c * B) * B' = (A' - uV p c * B') * B := by rw [Int.sub_mul, Int.sub_mul, e, Int.mul_right_comm]
  have e2 : P2 (moreI p c + 1) * B * B' = P2 (moreI p c + 1) * B' * B := Int.mul_right_comm ..
  unfold sideU
  generalize uV p c * B = U at *
  generalize uV p c * B' = U' at *
  generalize P2 (moreI p c + 1) * B = V at *
  generalize P2 (moreI p c + 1) * B' = V' at *
  have e3 : 2 * (A - U) * B' = 2 * (A' - U') * B := by rw [Int.mul_assoc, e1, Int.mul_assoc]
  have z : A' = U' ↔ A = U := by
    constructor
    · intro h
      rw [show A' - U' = 0 by omega, Int.zero_mul] at e1
      rcases Int.mul_eq_zero.mp e1 with h | h <;> omega
    · intro h
      rw [show A - U = 0 by omega, Int.zero_mul] at e1
      rcases Int.mul_eq_zero.mp e1.symm with h | h <;> omega
  have lt : 2 * (A' - U') < V' ↔ 2 * (A - U) < V := by
    constructor
    · intro h
      have := Int.mul_lt_mul_of_pos_right h B0
      rw [← e3, ← e2] at this
      exact Int.lt_of_mul_lt_mul_right this (Int.le_of_lt B1)
    · intro h
      have := Int.mul_lt_mul_of_pos_right h B1
      rw [e3, e2] at this
      exact Int.lt_of_mul_lt_mul_right this (Int.le_of_lt B0)
  have eq : 2 * (A' - U') = V' ↔ 2 * (A - U) = V := by
    constructor
    · intro h
      have : 2 * (A' - U') * B = V' * B := by rw [h]
      rw [← e3, ← e2] at this
      exact Int.eq_of_mul_eq_mul_right (by omega) this
    · intro h
      have : 2 * (A - U) * B' = V * B' := by rw [h]
      rw [e3, e2] at this
      exact Int.eq_of_mul_eq_mul_right (by omega) this
  simp only [z, lt, eq]
theorem step_hi {p l h num den j : Int} (f : Fm p l h) (d0 : 0 < den) (jh : ¬ j ≤ h - l) (dn : den * 2 ^ (p + j - 1).toNat ≤ num) : FlAt p l h (2 * num) den (cntI p l h - 1) ∧ moreI p (cntI p l h - 1) = h - l ∧ ptM p (cntI p l h - 1) = 2 * halfI p - 1 := by
  have hp := halfI_pos p
  have lh := f.lh
  have p0 := f.p0
  have cp := cnt_pos f
  have ec : cntI p l h - 1 = (h - l) * halfI p + (2 * halfI p - 1) := by
    rw [cnt_two]
    omega
  obtain ⟨e1, e2⟩ := pt_of (p := p) (g := h - l) (f := 2 * halfI p - 1) (by omega) (by omega) (by omega) (.inr (by omega))
  rw [← ec] at e1 e2
  refine ⟨⟨by omega, by omega, ?_, fun g => by omega⟩, e1, e2⟩
  unfold uV
  rw [e1, e2]
  have t := P2_pos (h - l + 1)
  have a : (2 * halfI p - 1) * P2 (h - l + 1) ≤ 2 * halfI p * P2 (h - l + 1) := Int.mul_le_mul_of_nonneg_right (by omega) (Int.le_of_lt t)
  have b : 2 * halfI p * P2 (h - l + 1) ≤ 2 * 2 ^ (p + j - 1).toNat := by
    rw [← halfI_two p0]
    unfold P2
    rw [← Int.pow_add]
    have : (2 : Int) * 2 ^ (p + j - 1).toNat = 2 ^ ((p + j - 1).toNat + 1) := by rw [Int.pow_succ, Int.mul_comm]
    rw [this]
    have := Nat.pow_le_pow_right (show 0 < 2 by decide) (show p.toNat + (h - l + 1).toNat ≤ (p + j - 1).toNat + 1 by omega)
    have e1 : ∀ n : Nat, ((2 ^ n : Nat) : Int) = 2 ^ n := fun n => by rw [Int.natCast_pow]; rfl
    rw [← e1, ← e1]
    omega
  have c := Int.mul_le_mul_of_nonneg_right (Int.le_trans a b) (Int.le_of_lt d0)
  refine Int.le_trans c ?_
  rw [Int.mul_assoc, Int.mul_comm (2 ^ (p + j - 1).toNat)]
  omega
theorem step_lo {p l h num den j m : Int} (f : Fm p l h) (n0 : 0 < num) (d0 : 0 < den) (j0 : 0 ≤ j) (jh : j ≤ h - l) (hm : m = num / (den * 2 ^ j.toNat)) (up : num < den * 2 ^ (p + j).toNat) (dn : j = 0 ∨ den * 2 ^ (p + j - 1).toNat ≤ num) : FlAt p l h (2 * num) den (j * halfI p + m) ∧ moreI p (j * halfI p + m) = j ∧ ptM p (j * halfI p + m) = m := by
  have hp := halfI_pos p
  have lh := f.lh
  have p0 := f.p0
  have W0 : 0 < den * 2 ^ j.toNat := Int.mul_pos d0 (Int.pow_pos (by decide))
  have m0 : 0 ≤ m := by rw [hm]; exact Int.ediv_nonneg (by omega) (by omega)
  have eW : den * 2 ^ (p + j).toNat = 2 * halfI p * (den * 2 ^ j.toNat) := by
    rw [← halfI_two p0, Int.mul_left_comm, ← Int.pow_add, show (p + j).toNat = p.toNat + j.toNat by omega]
  have m1 : m < 2 * halfI p := by
    rw [hm]
    exact Int.ediv_lt_of_lt_mul W0 (by rw [← eW]; exact up)
  have m2 : j = 0 ∨ halfI p ≤ m := by
    rcases dn with z | z
    · exact .inl z
    · refine .inr ?_
      rw [hm]
      refine (Int.le_ediv_iff_mul_le W0).mpr ?_
      refine Int.le_trans (Int.le_of_eq ?_) z
      unfold halfI
      rw [Int.mul_left_comm, ← Int.pow_add, show (p + j - 1).toNat = (p - 1).toNat + j.toNat by omega]
  obtain ⟨e1, e2⟩ := pt_of j0 m0 m1 m2
  have lo : m * (den * 2 ^ j.toNat) ≤ num := by rw [hm]; exact Int.ediv_mul_le _ (by omega)
  have hi : num < (m + 1) * (den * 2 ^ j.toNat) := by rw [hm]; exact Int.lt_ediv_add_one_mul_self _ W0
  have c0 : 0 ≤ j * halfI p + m := by
    have := Int.mul_nonneg j0 (Int.le_of_lt hp)
    omega
  have eP : ∀ k : Int, k * P2 (j + 1) * den = 2 * (k * (den * 2 ^ j.toNat)) := fun k => by
    rw [P2_succ j0]
    unfold P2
    rw [Int.mul_left_comm k 2, Int.mul_assoc 2, Int.mul_assoc, Int.mul_comm den]
  refine ⟨⟨c0, ?_, ?_, fun g => ?_⟩, e1, e2⟩
  · rw [cnt_two]
    have := Int.mul_le_mul_of_nonneg_right jh (Int.le_of_lt hp)
    omega
  · unfold uV
    rw [e1, e2, eP]
    omega
  · rw [uV_next c0, e1, e2, eP]
    omega
theorem p2_two (l : Int) : P2 (1 - l) * P2 l = 2 * (P2 (-l) * P2 (l - 1)) := by
  unfold P2
  have : (2 : Int) * (2 ^ (-l).toNat * 2 ^ (l - 1).toNat) = 2 ^ ((-l).toNat + (l - 1).toNat + 1) := by
    rw [Int.pow_succ, Int.pow_add, Int.mul_comm 2]
  rw [this, ← Int.pow_add]
  congr 1
  omega
theorem p2_three (l s : Int) : P2 s * P2 (1 - l) * P2 (l - s) = 2 * (P2 (s - l) * (P2 (-s) * P2 (l - 1))) := by
  unfold P2
  have : (2 : Int) * (2 ^ (s - l).toNat * (2 ^ (-s).toNat * 2 ^ (l - 1).toNat)) = 2 ^ ((s - l).toNat + ((-s).toNat + (l - 1).toNat) + 1) := by
    rw [Int.pow_succ, Int.pow_add, Int.pow_add, Int.mul_comm 2]
  rw [this, ← Int.pow_add, ← Int.pow_add]
  congr 1
  omega
/-- the decimal's own fraction, and the law's -/
theorem dec_units (x q l : Int) : unA (x * P10 q) l * (P10 (-q) * P2 l) = 2 * (x * (P10 q * P2 (-l))) * unB (P10 (-q)) l := by
  unfold unA unB
  have e := p2_two l
  have e1 : x * P10 q * P2 (1 - l) * (P10 (-q) * P2 l) = x * (P10 q * P10 (-q)) * (P2 (1 - l) * P2 l) := by
    simp only [Int.mul_assoc, Int.mul_comm, Int.mul_left_comm]
  have e2 : 2 * (x * (P10 q * P2 (-l))) * (P10 (-q) * P2 (l - 1)) = x * (P10 q * P10 (-q)) * (2 * (P2 (-l) * P2 (l - 1))) := by
    simp only [Int.mul_assoc, Int.mul_comm, Int.mul_left_comm]
  rw [e1, e2, e]
theorem run_units (f s x l : Int) : unA (f * P2 s * x) l * P2 (l - s) = 2 * (x * (f * P2 (s - l))) * unB (P2 (-s)) l := by
  unfold unA unB
  have e := p2_three l s
  have e1 : f * P2 s * x * P2 (1 - l) * P2 (l - s) = x * f * (P2 s * P2 (1 - l) * P2 (l - s)) := by
    simp only [Int.mul_assoc, Int.mul_comm, Int.mul_left_comm]
  have e2 : 2 * (x * (f * P2 (s - l))) * (P2 (-s) * P2 (l - 1)) = x * f * (2 * (P2 (s - l) * (P2 (-s) * P2 (l - 1)))) := by
    simp only [Int.mul_assoc, Int.mul_comm, Int.mul_left_comm]
  rw [e1, e2, e]
theorem told_1 {w : Str} {c s : Int} (h : s = 0) : toldI false w c s = c := by
  rw [h]
  show readI w c 0 = c
  exact readI_0
theorem told_z {up : Bool} {c s : Int} : toldI up "zero" c s = c := by
  cases up
  · show readI "zero" c s = c
    by_cases z : s = 0
    · rw [z, readI_0]
    · exact readI_z z
  · show upI "zero" c s = c
    unfold upI
    rw [if_neg (by decide), if_pos rfl]
theorem told_o {up : Bool} {c s : Int} (h : up = true ∨ s ≠ 0) : toldI up "out" c s = c + 1 := by
  cases up
  · exact readI_u (h.resolve_left (by decide))
  · show upI "out" c s = c + 1
    unfold upI
    rw [if_neg (by decide), if_neg (by decide), if_pos rfl]
theorem told_d {up : Bool} {c s : Int} (h : up = true ∨ s ≠ 0) : toldI up "odd" c s = c + 1 - c % 2 := by
  cases up
  · exact readI_o (h.resolve_left (by decide))
  · show upI "odd" c s = c + 1 - c % 2
    unfold upI
    rw [if_neg (by decide), if_neg (by decide), if_neg (by decide)]
theorem told_4 {w : Str} {c s : Int} (hw : w = "even" ∨ w = "away") (h : s = 2) : toldI false w c s = c + if w = "away" ∨ c % 2 = 1 then 1 else 0 := by
  rw [h]
  rcases hw with rfl | rfl
  · show readI "even" c 2 = _
    rw [readI_e (by decide)]
    congr 1
    by_cases z : c % 2 = 1
    · rw [if_pos (.inr ⟨rfl, z⟩), if_pos (.inr z)]
    · rw [if_neg fun y => z (y.elim (fun y => by omega) fun y => y.2), if_neg fun y => y.elim (by decide) z]
  · show readI "away" c 2 = _
    rw [readI_a (by decide), if_pos (by decide), if_pos (.inl rfl)]
theorem told_5 {up : Bool} {w : Str} {c s : Int} (hw : w = "even" ∨ w = "away") (h : up = true ∨ (s ≠ 0 ∧ s ≠ 2)) (hs : s = 0 ∨ s = 1 ∨ s = 2 ∨ s = 3) : toldI up w c s = c + if s = 3 ∨ (s = 2 ∧ up = true) then 1 else 0 := by
  cases up
  · have h := h.resolve_left (by decide)
    rcases hw with rfl | rfl
    · show readI "even" c s = _
      rw [readI_e h.1]
      congr 1
      by_cases z : s = 3
      · rw [if_pos (.inl z), if_pos (.inl z)]
      · rw [if_neg (show ¬ (s = 3 ∨ (s = 2 ∧ c % 2 = 1)) from fun y => y.elim z fun y => h.2 y.1), if_neg (show ¬ (s = 3 ∨ (s = 2 ∧ false = true)) from fun y => y.elim z fun y => h.2 y.1)]
    · show readI "away" c s = _
      rw [readI_a h.1]
      congr 1
      by_cases z : s = 3
      · rw [if_pos (show s > 1 by omega), if_pos (.inl z)]
      · rw [if_neg (show ¬ (s = 3 ∨ (s = 2 ∧ false = true)) from fun y => y.elim z fun y => h.2 y.1), if_neg (show ¬ s > 1 by have := h.1; have := h.2; omega)]
  · show upI w c s = _
    unfold upI
    rw [if_pos hw]
    congr 1
    by_cases z : s ≥ 2
    · rw [if_pos z, if_pos (show s = 3 ∨ (s = 2 ∧ true = true) by rcases hs with y | y | y | y <;> first | exact .inl y | exact .inr ⟨y, rfl⟩ | omega)]
    · rw [if_neg z, if_neg (show ¬ (s = 3 ∨ (s = 2 ∧ true = true)) from fun y => y.elim (fun y => by omega) fun y => by omega)]
theorem side_rng {p c A B : Int} : sideU p c A B = 0 ∨ sideU p c A B = 1 ∨ sideU p c A B = 2 ∨ sideU p c A B = 3 := by
  unfold sideU
  split
  · exact .inl rfl
  split
  · exact .inr (.inl rfl)
  split
  · exact .inr (.inr (.inl rfl))
  · exact .inr (.inr (.inr rfl))
/-- the side by the law's doubled distance from the middle -/
theorem side_mid {p c num den T G : Int} (G0 : 0 < G) (eT : uV p c * den = 2 * T) (eG : P2 (moreI p c + 1) * den = 2 * G) : (sideU p c (2 * num) den = 0 ↔ num = T) ∧ (sideU p c (2 * num) den = 2 ↔ 2 * num - (2 * T + G) = 0) ∧ (T ≤ num → (sideU p c (2 * num) den = 3 ↔ 2 * num - (2 * T + G) > 0)) := by
  unfold sideU
  rw [eT, eG]
  refine ⟨?_, ?_, fun h => ?_⟩
  all_goals
    split
    · omega
    split
    · omega
    split <;> omega
/-- the code and the side of one value, told in both units -/
theorem both_units {p l h A B a d : Int} (f : Fm p l h) (A0 : 0 ≤ A) (B0 : 0 < B) (d0 : 0 < d) (e : A * d = 2 * a * B) : ∃ c t, FlAt p l h A B c ∧ sideU p c A B = t ∧ (∀ c', FlAt p l h A B c' → c' = c) ∧ (∀ c', FlAt p l h (2 * a) d c' → c' = c) ∧ sideU p c (2 * a) d = t := by
  obtain ⟨c, fl⟩ := fl_exists (p := p) (l := l) (h := h) (A := A) (B := B) f A0
  exact ⟨c, _, fl, rfl, fun c' y => y.uniq B0 fl, fun c' y => y.uniq d0 (fl_scl B0 d0 e fl), side_scl B0 d0 e⟩
theorem run_great {p l h F s x : Int} (f : Fm p l h) (F0 : 0 < F) (x0 : 0 < x) : ∃ c t, FlAt p l h (unA (F * P2 s * x) l) (unB (P2 (-s)) l) c ∧ sideU p c (unA (F * P2 s * x) l) (unB (P2 (-s)) l) = t ∧ (∀ c', FlAt p l h (unA (F * P2 s * x) l) (unB (P2 (-s)) l) c' → c' = c) ∧ (∀ c', FlAt p l h (2 * (x * (F * P2 (s - l)))) (P2 (l - s)) c' → c' = c) ∧ sideU p c (2 * (x * (F * P2 (s - l)))) (P2 (l - s)) = t :=
  both_units f (Int.mul_nonneg (Int.le_of_lt (Int.mul_pos (Int.mul_pos F0 (P2_pos s)) x0)) (Int.le_of_lt (P2_pos _))) (Int.mul_pos (P2_pos _) (P2_pos _)) (P2_pos _) (run_units F s x l)
theorem dec_great {p l h q x : Int} (f : Fm p l h) (x0 : 0 < x) : ∃ c t, FlAt p l h (unA (x * P10 q) l) (unB (P10 (-q)) l) c ∧ sideU p c (unA (x * P10 q) l) (unB (P10 (-q)) l) = t ∧ (∀ c', FlAt p l h (unA (x * P10 q) l) (unB (P10 (-q)) l) c' → c' = c) ∧ (∀ c', FlAt p l h (2 * (x * (P10 q * P2 (-l)))) (P10 (-q) * P2 l) c' → c' = c) ∧ sideU p c (2 * (x * (P10 q * P2 (-l)))) (P10 (-q) * P2 l) = t :=
  both_units f (Int.mul_nonneg (Int.le_of_lt (Int.mul_pos x0 (P10_pos q))) (Int.le_of_lt (P2_pos _))) (Int.mul_pos (P10_pos _) (P2_pos _)) (Int.mul_pos (P10_pos _) (P2_pos _)) (dec_units x q l)
/-- far beyond the greatest number -/
theorem beyond_at {p l h x den : Int} (f : Fm p l h) (d0 : 0 < den) (b : den * 2 ^ (p + h - l).toNat < x) : FlAt p l h (2 * x) den (cntI p l h - 1) ∧ sideU p (cntI p l h - 1) (2 * x) den = 3 := by
  have cp := cnt_pos f
  have lh := f.lh
  have p0 := f.p0
  have t := uV_top (p := p) lh
  have t0 := uV_lt (p := p) (show 0 ≤ cntI p l h - 1 by omega)
  rw [show cntI p l h - 1 + 1 = cntI p l h by omega, t] at t0
  have e : 2 * halfI p * P2 (h - l + 1) * den = 2 * (den * 2 ^ (p + h - l).toNat) := by
    rw [← halfI_two p0, P2_succ (by omega)]
    unfold P2
    rw [show (2 : Int) ^ p.toNat * (2 * 2 ^ (h - l).toNat) = 2 * 2 ^ (p + h - l).toNat by rw [Int.mul_left_comm, ← Int.pow_add, show p.toNat + (h - l).toNat = (p + h - l).toNat by omega], Int.mul_assoc, Int.mul_comm den]
  rw [t0, Int.add_mul] at e
  have g0 := Int.mul_pos (P2_pos (moreI p (cntI p l h - 1) + 1)) d0
  refine ⟨⟨by omega, by omega, by omega, fun g => by omega⟩, ?_⟩
  unfold sideU
  rw [if_neg (by omega), if_neg (by omega), if_neg (by omega)]
theorem told_far {up : Bool} {w : Str} {p l h : Int} (hw : IsWay w) : toldI up w (cntI p l h - 1) 3 = bynd w p l h := by
  unfold bynd
  rcases hw with rfl | rfl | rfl | rfl | rfl
  · rw [told_5 (.inl rfl) (.inr (by decide)) (by decide), if_pos (.inl rfl), if_neg (by decide), if_neg (by decide)]
    omega
  · rw [told_5 (.inr rfl) (.inr (by decide)) (by decide), if_pos (.inl rfl), if_neg (by decide), if_neg (by decide)]
    omega
  · rw [told_z, if_pos rfl]
  · rw [told_o (.inr (by decide)), if_neg (by decide), if_neg (by decide)]
    omega
  · rw [told_d (.inr (by decide)), if_neg (by decide), if_pos rfl]
    omega
theorem bynd_bits {w : Str} {p l h : Int} (f : Fm p l h) : 0 ≤ bynd w p l h ∧ bynd w p l h ≤ cntI p l h := by
  have := cnt_pos f
  unfold bynd
  split
  · omega
  · split <;> omega


def sp__law_row : Spc := fun ds hc Q _ => ∃ b r q N pw bits, ds = [.ref r, .int pw, .int bits] ∧ Dk b r q N hc ∧ N < 900000 ∧ pw.natAbs ≤ 400 ∧ 0 < bits ∧ bits ≤ 250 ∧ ∀ f s k hc', RwOk pw f s k → s.natAbs ≤ 2000 → Dk b r q (N + 4) hc' → Q (.tup [.int pw, .int f, .int s, .int k]) hc'
theorem len__law_row {ds : List D} {hc : CH} {Q E} (h : sp__law_row ds hc Q E) : ds.length = 3 := by
  obtain ⟨b, r, q, N, pw, bits, rfl, _⟩ := h
  rfl
theorem cut_sz {p : Int} {bits : Nat} {g s : Int} (hp : p.natAbs ≤ 400) (b0 : 0 < bits) (b1 : bits ≤ 250) (c : CutAt p bits g s) : 0 < g ∧ g.natAbs < 2 ^ 250 ∧ s.natAbs ≤ 1860 := by
  have u := (CutQ.uniq (P10_pos (-p)) b0 c (cutQ_of (P10_pos p) (P10_pos (-p)) b0)).2
  have z := cutS_bd (bits := bits) (P10_bits p 400 (by omega)) (P10_bits (-p) 400 (by omega))
  have g0 : 1 ≤ g := CutQ.g0 c
  refine ⟨by omega, cut_g_bd (by omega) c.2.1 b1, by omega⟩
theorem rw_of {q f s k : Int} (hq : q.natAbs ≤ 400) (f0 : 0 < f) (fb : f.natAbs < 2 ^ 250 + 10) (k0 : 0 ≤ k) (k1 : k < 4) (hs : s.natAbs ≤ 2000) : RwOk q f s k := by
  have t : (2 : Nat) ^ 250 + 20 < 2 ^ 290 := by decide +kernel
  have e : f.natAbs < 2 ^ 290 ∧ (f + k).natAbs < 2 ^ 290 := by
    generalize (2 : Nat) ^ 250 = X at *
    generalize (2 : Nat) ^ 290 = Y at *
    omega
  exact ⟨by omega, f0, e.1, k0, e.2, by omega⟩
theorem pure__law_row {ds : List D} {hc : CH} {Q : D → CH → Prop} {E} (h : sp__law_row ds hc Q E) : c__law_row { nx := fun _ hc' => Q .non hc', rt := Q, xp := fun x _ hc' => E x hc' } (startC N__law_row ds) hc := by
  obtain ⟨b, r, q, N, pw, bits, rfl, dk, hN, hp, b0, b1, k⟩ := h
  unfold c__law_row N__law_row
  obtain ⟨bn, rfl⟩ : ∃ n : Nat, bits = n := ⟨bits.toNat, by omega⟩
  refine seq_step fun M hM => ?_
  walk_at "n"
  refine ⟨pw, bn, rfl, by omega, by omega, by omega, fun g s c _ => ?_⟩
  obtain ⟨g0, gb, sb⟩ := cut_sz hp (by omega) (by omega) c
  have ch : 0 ≤ cutH pw g s ∧ cutH pw g s < 4 := by
    unfold cutH
    split <;> decide
  have r0 : RwOk pw g s (cutH pw g s) := rw_of hp g0 (by omega) ch.1 ch.2 (by omega)
  revert r0
  generalize cutH pw g s = hh
  intro r0
  walk_at "n"
  refine hM _ _ ?_
  refine seq_step fun M hM => ?_
  walk_at "n"
  refine ⟨b, r, q, _, _, rfl, dk, by omega, by decide, by decide, fun v hc1 v0 v1 dk1 => hM _ _ ?_⟩
  refine seq_step fun M hM => ?_
  walk_at "n"
  refine ite2 (fun z => ?_) (fun z => hM _ _ ?_)
  · exact ⟨by decide, k _ _ _ _ r0 (by omega) (dk1.mono (by omega))⟩
  refine seq_step fun M hM => ?_
  walk_at "n"
  refine ite2 (fun z => ?_) (fun z => hM _ _ ?_)
  · refine ⟨b, r, q, _, _, rfl, dk1, by omega, by decide, by decide, fun x hc2 x0 x1 dk2 => ?_⟩
    walk_at "n"
    refine ⟨b, r, q, _, _, rfl, dk2, by omega, by decide, by decide, fun y hc3 y0 y1 dk3 => ?_⟩
    walk_at "n"
    refine ⟨by decide, k _ _ _ _ (rw_of hp ?_ ?_ y0 y1 ?_) (Nat.le_trans sb (by decide)) (dk3.mono (by omega))⟩
    · split <;> omega
    · split <;> omega
    · omega
  refine seq_step fun M hM => ?_
  walk_at "n"
  refine ite2 (fun z => ?_) (fun z => hM _ _ ?_)
  · refine ⟨b, r, q, _, _, rfl, dk1, by omega, by decide, by decide, fun x hc2 x0 x1 dk2 => ?_⟩
    walk_at "n"
    refine ⟨b, r, q, _, _, rfl, dk2, by omega, by decide, by decide, fun y hc3 y0 y1 dk3 => ?_⟩
    walk_at "n"
    refine ⟨by decide, k _ _ _ _ (rw_of hp ?_ ?_ y0 y1 ?_) (Nat.le_trans sb (by decide)) (dk3.mono (by omega))⟩
    · split <;> omega
    · split <;> omega
    · omega
  walk_at "n"
  refine ⟨b, r, q, _, _, rfl, dk1, by omega, by decide, by decide, fun x hc2 x0 x1 dk2 => ?_⟩
  walk_at "n"
  refine ⟨b, r, q, _, _, rfl, dk2, by omega, by decide, by decide, fun y hc3 y0 y1 dk3 => ?_⟩
  walk_at "n"
  refine ⟨b, r, q, _, _, rfl, dk3, by omega, by decide, by decide, fun u hc4 u0 u1 dk4 => ?_⟩
  walk_at "n"
  refine ⟨by decide, k _ _ _ _ (rw_of hp (by omega) ?_ u0 u1 ?_) ?_ (dk4.mono (by omega))⟩
  all_goals omega


theorem at__law_row (T : Txt K mg) (B : BaseT K mg base) (KX : K.In base) (PS : Sup P mf) (A__law_cut : FnAt P w K mg base 2 "_law_cut" ["_law_power_here", "_law_bits"] sp__law_cut) (A__law_draw : FnAt P w K mg base 1 "_law_draw" ["_law_deck_here", "_law_many"] sp__law_draw) : FnAt P w K mg base 3 "_law_row" ["_law_deck_here", "_law_power_here", "_law_bits"] sp__law_row :=
  fn_at (c := c__law_row) T.d__law_row sc__law_row (fun f cdv A outer s H E hr => by
    have nd := sc__law_row.nd
    exact (css_cons (cs_asg (ce_f A__law_cut hr (ca_cons (ce_v 1) (ca_cons (ce_v 2) ca_nil))) (cg_u rfl (cgs_cons (cg_n 1 nd) (cgs_cons (cg_n 3 nd) (cgs_cons (cg_n 4 nd) (cgs_cons (cg_n 5 nd) cgs_nil))))))
    (css_cons (cs_set nd (ce_f A__law_draw hr (ca_cons (ce_v 0) (ca_cons ce_i ca_nil))))
    (css_cons (cs_if (ct_cmp op_ltD (CE.bo (ce_v 6)) (CE.bo ce_i))
    (css_one (cs_ret (CE.bo (ce_tup (ca_cons (ce_v 1) (ca_cons (ce_v 3) (ca_cons (ce_v 4) (ca_cons (ce_v 5) ca_nil))))))))
    css_nil)
    (css_cons (cs_if (ct_cmp (op_eqDD hr.g.units) (CE.bo (ce_v 6)) (CE.bo ce_i))
    (css_one (cs_ret (CE.bo (ce_tup (ca_cons (ce_v 1) (ca_cons (ce_bf (bf_max2 rfl) T.n_max (cba_cons (CE.bo ce_i) (cba_cons (CE.bo (ce_op op_subD (CE.bo (ce_v 3)) (CE.bo (ce_f A__law_draw hr (ca_cons (ce_v 0) (ca_cons ce_i ca_nil)))))) cba_nil))) (ca_cons (ce_v 4) (ca_cons (ce_f A__law_draw hr (ca_cons (ce_v 0) (ca_cons ce_i ca_nil))) ca_nil))))))))
    css_nil)
    (css_cons (cs_if (ct_cmp (op_eqDD hr.g.units) (CE.bo (ce_v 6)) (CE.bo ce_i))
    (css_one (cs_ret (CE.bo (ce_tup (ca_cons (ce_v 1) (ca_cons (ce_bf (bf_max2 rfl) T.n_max (cba_cons (CE.bo ce_i) (cba_cons (CE.bo (ce_op op_subD (CE.bo (ce_op op_addD (CE.bo (ce_v 3)) (CE.bo (ce_f A__law_draw hr (ca_cons (ce_v 0) (ca_cons ce_i ca_nil)))))) (CE.bo ce_i))) cba_nil))) (ca_cons (ce_v 4) (ca_cons (ce_f A__law_draw hr (ca_cons (ce_v 0) (ca_cons ce_i ca_nil))) ca_nil))))))))
    css_nil)
    (css_one (cs_ret (CE.bo (ce_tup (ca_cons (ce_v 1) (ca_cons (ce_op op_addD (CE.bo ce_i) (CE.bo (ce_f A__law_draw hr (ca_cons (ce_v 0) (ca_cons ce_i ca_nil))))) (ca_cons (ce_op op_subD (CE.bo (ce_op op_addD (CE.bo (ce_v 4)) (CE.bo (ce_f A__law_draw hr (ca_cons (ce_v 0) (ca_cons ce_i ca_nil)))))) (CE.bo ce_i)) (ca_cons (ce_f A__law_draw hr (ca_cons (ce_v 0) (ca_cons ce_i ca_nil))) ca_nil))))))))))))))
    (fun ds hc Q E h => len__law_row h) (fun ds hc Q E h => pure__law_row h) (fun _ _ _ _ _ _ us hl => match us, hl with | [_, _, _], _ => rfl)

abbrev N_ten : List Str := ["power", "found", "base", "left"]
def c_ten : CSx :=
  (cSeq (cPar3 1 2 3 (cCons (cC (.int 1)) (cCons (cC (.int 10)) (cCons (cV 0) cNil))))
    (cSeq (cWhile (cT (cOp gtD (cV 3) (cC (.int 0))))
    (cSeq (cIfS (cT (cOp eqD (cOp modD (cV 3) (cC (.int 2))) (cC (.int 1))))
    (cAsg (cOp mulD (cV 1) (cV 2)) (gN 1))
    cNext)
    (cPar 2 3 (cCons (cOp mulD (cV 2) (cV 2)) (cCons (cOp fdivD (cV 3) (cC (.int 2))) cNil)))))
    (cRet (cV 1))))

def sp_ten : Spc := fun ds hc Q _ => ∃ p : Int, ds = [.int p] ∧ 0 ≤ p ∧ p ≤ 1000000 ∧ Q (.int (10 ^ p.toNat)) hc
theorem len_ten {ds : List D} {hc : CH} {Q E} (h : sp_ten ds hc Q E) : ds.length = 1 := by
  obtain ⟨p, rfl, _⟩ := h
  rfl
theorem ten_bits (f : Nat) : ((10 : Int) ^ f).natAbs < 2 ^ (4 * f + 1) := by
  rw [Int.natAbs_pow]
  have h1 : (10 : Nat) ^ f ≤ 16 ^ f := Nat.pow_le_pow_left (by decide) f
  have h2 : (16 : Nat) ^ f = 2 ^ (4 * f) := by rw [show (16 : Nat) = 2 ^ 4 from rfl, ← Nat.pow_mul]
  have h3 : (2 : Nat) ^ (4 * f) < 2 ^ (4 * f + 1) := Nat.pow_lt_pow_right (by decide) (by omega)
  show (10 : Nat) ^ f < _
  omega
theorem ten_mul {f e : Nat} (hf : f ≤ 1000000) (he : e ≤ 1000000) : MulOk (10 ^ f) (10 ^ e) := mulOk (4 * f + 1) (4 * e + 1) (ten_bits f) (ten_bits e) (by omega)
theorem pure_ten {ds : List D} {hc : CH} {Q : D → CH → Prop} {E} (h : sp_ten ds hc Q E) : c_ten { nx := fun _ hc' => Q .non hc', rt := Q, xp := fun x _ hc' => E x hc' } (startC N_ten ds) hc := by
  obtain ⟨p, rfl, p0, p1, q⟩ := h
  unfold c_ten N_ten
  refine seq_step fun M hM => ?_
  walk_at "n"
  refine hM _ _ ?_
  refine seq_step fun M hM => ?_
  refine wh_inv (fun m sc h => h = hc ∧ ∃ f e : Nat, f + e * m = p.toNat ∧ sc = [.val (.int p), .val (.int (10 ^ f)), .val (.int (10 ^ e)), .val (.int m)]) (fun m sc h Nx I nx => ?_) (m := p.toNat) ⟨rfl, 0, 1, by omega, by rw [show ((p.toNat : Nat) : Int) = p by omega]; rfl⟩
  obtain ⟨rfl, f, e, hfe, rfl⟩ := I
  walk_at "n"
  by_cases hm : 0 < m
  · have he : e ≤ e * m := Nat.le_mul_of_pos_right e hm
    have hm' : (0 : Int) < (m : Int) := by omega
    rw [if_pos (decide_eq_true hm')]
    have e2 : 10 ^ e * (10 : Int) ^ e = 10 ^ (e + e) := by rw [Int.pow_add]
    have d2 : ((m : Int) / 2) = ((m / 2 : Nat) : Int) := by omega
    have back : ∀ f2, f2 + (e + e) * (m / 2) = p.toNat → Nx [.val (.int p), .val (.int (10 ^ f2)), .val (.int (10 ^ (e + e))), .val (.int ((m / 2 : Nat) : Int))] h := fun f2 h2 => nx (m / 2) _ _ (by omega) ⟨rfl, f2, e + e, h2, rfl⟩
    refine seq_step fun M2 hM2 => ?_
    walk_at "n"
    refine ⟨by decide, ?_⟩
    have dm := Nat.div_add_mod m 2
    have ee : (e + e) * (m / 2) = e * (2 * (m / 2)) := by rw [← Nat.two_mul, Nat.mul_comm 2 e, Nat.mul_assoc]
    by_cases odd : (m : Int) % 2 = 1
    · rw [if_pos (decide_eq_true odd)]
      refine ⟨ten_mul (by omega) (by omega), hM2 _ _ ?_⟩
      walk_at "n"
      refine ⟨ten_mul (by omega) (by omega), divOk 2 (by decide) (by decide) (by decide), ?_⟩
      rw [e2, d2, ← Int.pow_add]
      refine back (f + e) ?_
      have : m = 2 * (m / 2) + 1 := by omega
      rw [this, Nat.mul_add] at hfe
      omega
    · rw [if_neg (by rw [decide_eq_false odd]; exact Bool.false_ne_true)]
      refine hM2 _ _ ?_
      walk_at "n"
      refine ⟨ten_mul (by omega) (by omega), divOk 2 (by decide) (by decide) (by decide), ?_⟩
      rw [e2, d2]
      refine back f ?_
      have : m = 2 * (m / 2) := by omega
      rw [this] at hfe
      omega
  · rw [if_neg (by rw [decide_eq_false (by omega)]; exact Bool.false_ne_true)]
    refine hM _ _ ?_
    walk_at "n"
    obtain rfl : m = 0 := by omega
    rw [Nat.mul_zero, Nat.add_zero] at hfe
    rw [hfe]
    exact q


theorem at_ten (T : Txt K mg) (B : BaseT K mg base) (KX : K.In base) (PS : Sup P mf)  : FnAt P w K mg base 1 "ten" ["power"] sp_ten :=
  fn_at (c := c_ten) T.d_ten sc_ten (fun f cdv A outer s H E hr => by
    have nd := sc_ten.nd
    exact (css_cons (cs_par3 rfl nd (ca_cons ce_i (ca_cons ce_i (ca_cons (ce_v 0) ca_nil))))
    (css_cons (cs_while hr.p (ct_cmp op_gtD (CE.bo (ce_v 3)) (CE.bo ce_i))
    (css_cons (cs_if (ct_cmp (op_eqDD hr.g.units) (CE.bo (ce_op op_modD (CE.bo (ce_v 3)) (CE.bo ce_i))) (CE.bo ce_i))
    (css_one (cs_set nd (ce_op op_mulD (CE.bo (ce_v 1)) (CE.bo (ce_v 2)))))
    css_nil)
    (css_one (cs_par rfl nd (ca_cons (ce_op op_mulD (CE.bo (ce_v 2)) (CE.bo (ce_v 2))) (ca_cons (ce_op op_fdivD (CE.bo (ce_v 3)) (CE.bo ce_i)) ca_nil))))))
    (css_one (cs_ret (CE.bo (ce_v 1)))))))
    (fun ds hc Q E h => len_ten h) (fun ds hc Q E h => pure_ten h) (fun _ _ _ _ _ _ us hl => match us, hl with | [_], _ => rfl)

abbrev N_power_fraction : List Str := ["power"]
def c_power_fraction : CSx :=
  (cRet (cIf (cT (cOp geD (cV 0) (cC (.int 0)))) (cTup (cCons (cCall sp_ten (cCons (cV 0) cNil)) (cCons (cC (.int 1)) cNil))) (cTup (cCons (cC (.int 1)) (cCons (cCall sp_ten (cCons (cOp subD (cC (.int 0)) (cV 0)) cNil)) cNil)))))

def sp_power_fraction : Spc := fun ds hc Q _ => ∃ p : Int, ds = [.int p] ∧ p.natAbs ≤ 1000000 ∧ Q (.tup [.int (P10 p), .int (P10 (-p))]) hc
theorem len_power_fraction {ds : List D} {hc : CH} {Q E} (h : sp_power_fraction ds hc Q E) : ds.length = 1 := by
  obtain ⟨p, rfl, _⟩ := h
  rfl
theorem pure_power_fraction {ds : List D} {hc : CH} {Q : D → CH → Prop} {E} (h : sp_power_fraction ds hc Q E) : c_power_fraction { nx := fun _ hc' => Q .non hc', rt := Q, xp := fun x _ hc' => E x hc' } (startC N_power_fraction ds) hc := by
  obtain ⟨p, rfl, hp, k⟩ := h
  unfold c_power_fraction N_power_fraction
  walk_at "n"
  refine ite2 (fun h => ?_) (fun h => ?_)
  · have h := of_decide_eq_true h
    refine ⟨p, rfl, by omega, by omega, by decide, ?_⟩
    rw [P10_nn (show -p ≤ 0 by omega)] at k
    exact k
  · have h : ¬ 0 ≤ p := fun z => h (decide_eq_true z)
    refine ⟨0 - p, rfl, by omega, by omega, by decide, ?_⟩
    rw [P10_nn (show p ≤ 0 by omega), show -p = 0 - p by omega] at k
    exact k


theorem at_power_fraction (T : Txt K mg) (B : BaseT K mg base) (KX : K.In base) (PS : Sup P mf) (A_ten : FnAt P w K mg base 1 "ten" ["power"] sp_ten) : FnAt P w K mg base 2 "power_fraction" ["power"] sp_power_fraction :=
  fn_at (c := c_power_fraction) T.d_power_fraction sc_power_fraction (fun f cdv A outer s H E hr => by
    have nd := sc_power_fraction.nd
    exact (css_one (cs_ret (CE.bo (ce_if (ct_cmp op_geD (CE.bo (ce_v 0)) (CE.bo ce_i)) (ce_tup (ca_cons (ce_f A_ten hr (ca_cons (ce_v 0) ca_nil)) (ca_cons ce_i ca_nil))) (ce_tup (ca_cons ce_i (ca_cons (ce_f A_ten hr (ca_cons (ce_op op_subD (CE.bo ce_i) (CE.bo (ce_v 0))) ca_nil)) ca_nil))))))))
    (fun ds hc Q E h => len_power_fraction h) (fun ds hc Q E h => pure_power_fraction h) (fun _ _ _ _ _ _ us hl => match us, hl with | [_], _ => rfl)

abbrev N_shifted : List Str := ["num", "den", "shift"]
def c_shifted : CSx :=
  (cRet (cIf (cT (cOp geD (cV 2) (cC (.int 0)))) (cTup (cCons (cOp shlD (cV 0) (cV 2)) (cCons (cV 1) cNil))) (cTup (cCons (cV 0) (cCons (cOp shlD (cV 1) (cOp subD (cC (.int 0)) (cV 2))) cNil)))))

def sp_shifted : Spc := fun ds hc Q _ => ∃ n d s : Int, ds = [.int n, .int d, .int s] ∧ (0 ≤ s → CShl n s) ∧ (s ≤ 0 → CShl d (-s)) ∧ Q (.tup [.int (n * P2 s), .int (d * P2 (-s))]) hc
theorem len_shifted {ds : List D} {hc : CH} {Q E} (h : sp_shifted ds hc Q E) : ds.length = 3 := by
  obtain ⟨n, d, s, rfl, _⟩ := h
  rfl
theorem pure_shifted {ds : List D} {hc : CH} {Q : D → CH → Prop} {E} (h : sp_shifted ds hc Q E) : c_shifted { nx := fun _ hc' => Q .non hc', rt := Q, xp := fun x _ hc' => E x hc' } (startC N_shifted ds) hc := by
  obtain ⟨n, d, s, rfl, h1, h2, k⟩ := h
  unfold c_shifted N_shifted
  walk_at "n"
  refine ite2 (fun h => ?_) (fun h => ?_)
  · have h := of_decide_eq_true h
    refine ⟨h1 h, by decide, ?_⟩
    rw [P2_nn (show -s ≤ 0 by omega), Int.mul_one] at k
    exact k
  · have h : ¬ 0 ≤ s := fun z => h (decide_eq_true z)
    rw [show 0 - s = -s by omega]
    refine ⟨h2 (by omega), by decide, ?_⟩
    rw [P2_nn (show s ≤ 0 by omega), Int.mul_one] at k
    exact k


theorem at_shifted (T : Txt K mg) (B : BaseT K mg base) (KX : K.In base) (PS : Sup P mf)  : FnAt P w K mg base 1 "shifted" ["num", "den", "shift"] sp_shifted :=
  fn_at (c := c_shifted) T.d_shifted sc_shifted (fun f cdv A outer s H E hr => by
    have nd := sc_shifted.nd
    exact (css_one (cs_ret (CE.bo (ce_if (ct_cmp op_geD (CE.bo (ce_v 2)) (CE.bo ce_i)) (ce_tup (ca_cons (ce_op op_shlD (CE.bo (ce_v 0)) (CE.bo (ce_v 2))) (ca_cons (ce_v 1) ca_nil))) (ce_tup (ca_cons (ce_v 0) (ca_cons (ce_op op_shlD (CE.bo (ce_v 1)) (CE.bo (ce_op op_subD (CE.bo ce_i) (CE.bo (ce_v 2))))) ca_nil))))))))
    (fun ds hc Q E h => len_shifted h) (fun ds hc Q E h => pure_shifted h) (fun _ _ _ _ _ _ us hl => match us, hl with | [_, _, _], _ => rfl)

abbrev N_run_slope : List Str := ["row"]
def c_run_slope : CSx :=
  (cRet (cCall sp_shifted (cCons (cOp ixD (cV 0) (cC (.int 1))) (cCons (cC (.int 1)) (cCons (cOp ixD (cV 0) (cC (.int 2))) cNil)))))

def sp_run_slope : Spc := fun ds hc Q _ => ∃ (p f s h : Int) (a : Nat), ds = [.tup [.int p, .int f, .int s, .int h]] ∧ (f).natAbs < 2 ^ a ∧ a ≤ 1000000 ∧ s.natAbs ≤ 1000000 ∧ Q (.tup [.int (f * P2 s), .int (P2 (-s))]) hc
theorem len_run_slope {ds : List D} {hc : CH} {Q E} (h : sp_run_slope ds hc Q E) : ds.length = 1 := by
  obtain ⟨p, f, s, h, a, rfl, _⟩ := h
  rfl
theorem pure_run_slope {ds : List D} {hc : CH} {Q : D → CH → Prop} {E} (h : sp_run_slope ds hc Q E) : c_run_slope { nx := fun _ hc' => Q .non hc', rt := Q, xp := fun x _ hc' => E x hc' } (startC N_run_slope ds) hc := by
  obtain ⟨p, f, s, h, a, rfl, ha, hz, hs, k⟩ := h
  unfold c_run_slope N_run_slope
  walk_at "n"
  refine ⟨_, _, _, rfl, fun z => shlOk (b := 1000000) ha z (by omega) (by omega), fun z => shlOk (a := 2) (b := 1000000) (by decide) (by omega) (by omega) (by omega), ?_⟩
  rw [Int.one_mul]
  exact k


theorem at_run_slope (T : Txt K mg) (B : BaseT K mg base) (KX : K.In base) (PS : Sup P mf) (A_shifted : FnAt P w K mg base 1 "shifted" ["num", "den", "shift"] sp_shifted) : FnAt P w K mg base 2 "run_slope" ["row"] sp_run_slope :=
  fn_at (c := c_run_slope) T.d_run_slope sc_run_slope (fun f cdv A outer s H E hr => by
    have nd := sc_run_slope.nd
    exact (css_one (cs_ret (CE.bo (ce_f A_shifted hr (ca_cons (ce_ix (CE.bo (ce_v 0)) ce_i) (ca_cons ce_i (ca_cons (ce_ix (CE.bo (ce_v 0)) ce_i) ca_nil))))))))
    (fun ds hc Q E h => len_run_slope h) (fun ds hc Q E h => pure_run_slope h) (fun _ _ _ _ _ _ us hl => match us, hl with | [_], _ => rfl)

abbrev N_is_above : List Str := ["one", "other"]
def c_is_above : CSx :=
  (cRet (cOp gtD (cOp mulD (cOp ixD (cV 0) (cC (.int 0))) (cOp ixD (cV 1) (cC (.int 1)))) (cOp mulD (cOp ixD (cV 1) (cC (.int 0))) (cOp ixD (cV 0) (cC (.int 1))))))

def sp_is_above : Spc := fun ds hc Q _ => ∃ (x y z w : Int) (a b : Nat), ds = [.tup [.int x, .int y], .tup [.int z, .int w]] ∧ (x.natAbs < 2 ^ a ∧ y.natAbs < 2 ^ a ∧ z.natAbs < 2 ^ b ∧ w.natAbs < 2 ^ b ∧ a + b ≤ 134217728) ∧ Q (.bl (decide (z * y < x * w))) hc
theorem len_is_above {ds : List D} {hc : CH} {Q E} (h : sp_is_above ds hc Q E) : ds.length = 2 := by
  obtain ⟨x, y, z, w, a, b, rfl, _⟩ := h
  rfl
theorem pure_is_above {ds : List D} {hc : CH} {Q : D → CH → Prop} {E} (h : sp_is_above ds hc Q E) : c_is_above { nx := fun _ hc' => Q .non hc', rt := Q, xp := fun x _ hc' => E x hc' } (startC N_is_above ds) hc := by
  obtain ⟨x, y, z, w, a, b, rfl, ⟨h1, h2, h3, h4, h5⟩, k⟩ := h
  unfold c_is_above N_is_above
  walk_at "n"
  exact ⟨mulOk a b h1 h4 h5, mulOk b a h3 h2 (by omega), k⟩


theorem at_is_above (T : Txt K mg) (B : BaseT K mg base) (KX : K.In base) (PS : Sup P mf)  : FnAt P w K mg base 1 "is_above" ["one", "other"] sp_is_above :=
  fn_at (c := c_is_above) T.d_is_above sc_is_above (fun f cdv A outer s H E hr => by
    have nd := sc_is_above.nd
    exact (css_one (cs_ret (CE.bo (ce_cmp op_gtD (CE.bo (ce_op op_mulD (CE.bo (ce_ix (CE.bo (ce_v 0)) ce_i)) (CE.bo (ce_ix (CE.bo (ce_v 1)) ce_i)))) (CE.bo (ce_op op_mulD (CE.bo (ce_ix (CE.bo (ce_v 1)) ce_i)) (CE.bo (ce_ix (CE.bo (ce_v 0)) ce_i)))))))))
    (fun ds hc Q E h => len_is_above h) (fun ds hc Q E h => pure_is_above h) (fun _ _ _ _ _ _ us hl => match us, hl with | [_, _], _ => rfl)

abbrev N_top_slope : List Str := ["row"]
def c_top_slope : CSx :=
  (cRet (cCall sp_shifted (cCons (cOp addD (cOp ixD (cV 0) (cC (.int 1))) (cOp ixD (cV 0) (cC (.int 3)))) (cCons (cC (.int 1)) (cCons (cOp ixD (cV 0) (cC (.int 2))) cNil)))))

def sp_top_slope : Spc := fun ds hc Q _ => ∃ (p f s h : Int) (a : Nat), ds = [.tup [.int p, .int f, .int s, .int h]] ∧ ((f + h)).natAbs < 2 ^ a ∧ a ≤ 1000000 ∧ s.natAbs ≤ 1000000 ∧ Q (.tup [.int ((f + h) * P2 s), .int (P2 (-s))]) hc
theorem len_top_slope {ds : List D} {hc : CH} {Q E} (h : sp_top_slope ds hc Q E) : ds.length = 1 := by
  obtain ⟨p, f, s, h, a, rfl, _⟩ := h
  rfl
theorem pure_top_slope {ds : List D} {hc : CH} {Q : D → CH → Prop} {E} (h : sp_top_slope ds hc Q E) : c_top_slope { nx := fun _ hc' => Q .non hc', rt := Q, xp := fun x _ hc' => E x hc' } (startC N_top_slope ds) hc := by
  obtain ⟨p, f, s, h, a, rfl, ha, hz, hs, k⟩ := h
  unfold c_top_slope N_top_slope
  walk_at "n"
  refine ⟨_, _, _, rfl, fun z => shlOk (b := 1000000) ha z (by omega) (by omega), fun z => shlOk (a := 2) (b := 1000000) (by decide) (by omega) (by omega) (by omega), ?_⟩
  rw [Int.one_mul]
  exact k


theorem at_top_slope (T : Txt K mg) (B : BaseT K mg base) (KX : K.In base) (PS : Sup P mf) (A_shifted : FnAt P w K mg base 1 "shifted" ["num", "den", "shift"] sp_shifted) : FnAt P w K mg base 2 "top_slope" ["row"] sp_top_slope :=
  fn_at (c := c_top_slope) T.d_top_slope sc_top_slope (fun f cdv A outer s H E hr => by
    have nd := sc_top_slope.nd
    exact (css_one (cs_ret (CE.bo (ce_f A_shifted hr (ca_cons (ce_op op_addD (CE.bo (ce_ix (CE.bo (ce_v 0)) ce_i)) (CE.bo (ce_ix (CE.bo (ce_v 0)) ce_i))) (ca_cons ce_i (ca_cons (ce_ix (CE.bo (ce_v 0)) ce_i) ca_nil))))))))
    (fun ds hc Q E h => len_top_slope h) (fun ds hc Q E h => pure_top_slope h) (fun _ _ _ _ _ _ us hl => match us, hl with | [_], _ => rfl)

abbrev N_is_sound : List Str := ["row", "value"]
def c_is_sound : CSx :=
  (cSeq (cAsg (cCall sp_power_fraction (cCons (cOp ixD (cV 0) (cC (.int 0))) cNil)) (gN 1))
    (cRet (cAndV (cNotV (cCall sp_is_above (cCons (cCall sp_run_slope (cCons (cV 0) cNil)) (cCons (cV 1) cNil)))) (cNotV (cCall sp_is_above (cCons (cV 1) (cCons (cCall sp_top_slope (cCons (cV 0) cNil)) cNil)))))))

def soundB (p f s h : Int) : Bool := decide (f * P2 s * P10 (-p) ≤ P10 p * P2 (-s)) && decide (P10 p * P2 (-s) ≤ (f + h) * P2 s * P10 (-p))


def sp_is_sound : Spc := fun ds hc Q _ => ∃ (p f s h : Int), ds = [.tup [.int p, .int f, .int s, .int h]] ∧ p.natAbs ≤ 100000 ∧ f.natAbs < 2 ^ 100000 ∧ (f + h).natAbs < 2 ^ 100000 ∧ s.natAbs ≤ 100000 ∧ Q (.bl (soundB p f s h)) hc
theorem len_is_sound {ds : List D} {hc : CH} {Q E} (h : sp_is_sound ds hc Q E) : ds.length = 1 := by
  obtain ⟨p, f, s, h, rfl, _⟩ := h
  rfl
theorem pure_is_sound {ds : List D} {hc : CH} {Q : D → CH → Prop} {E} (h : sp_is_sound ds hc Q E) : c_is_sound { nx := fun _ hc' => Q .non hc', rt := Q, xp := fun x _ hc' => E x hc' } (startC N_is_sound ds) hc := by
  obtain ⟨p, f, s, h, rfl, hp, hf, hfh, hs, k⟩ := h
  unfold c_is_sound N_is_sound
  have p1 : (P10 p).natAbs < 2 ^ 400001 := P10_bits p 100000 (by omega)
  have p2 : (P10 (-p)).natAbs < 2 ^ 400001 := P10_bits (-p) 100000 (by omega)
  have s1 : (f * P2 s).natAbs < 2 ^ 200001 := shl_bits (a := 100000) (b := 100000) hf (by omega)
  have s2 : ((f + h) * P2 s).natAbs < 2 ^ 200001 := shl_bits (a := 100000) (b := 100000) hfh (by omega)
  have s3 : (P2 (-s)).natAbs < 2 ^ 200001 := up_pow 200001 (k := 100001) (P2_bits (-s) 100000 (by omega)) (by omega)
  refine seq_step fun M hM => ?_
  walk_at "n"
  refine ⟨p, rfl, by omega, hM _ _ ?_⟩
  walk_at "n"
  refine ⟨p, f, s, h, 100000, rfl, hf, by omega, by omega, _, _, _, _, 200001, 400001, rfl, ⟨s1, s3, p1, p2, by omega⟩, ?_⟩
  unfold soundB at k
  by_cases h1 : P10 p * P2 (-s) < f * P2 s * P10 (-p)
  · rw [decide_eq_true h1]
    rw [decide_eq_false (by omega)] at k
    exact k
  · rw [decide_eq_false h1]
    rw [decide_eq_true (by omega)] at k
    walk_at "n"
    refine ⟨p, f, s, h, 100000, rfl, hfh, by omega, by omega, _, _, _, _, 400001, 200001, rfl, ⟨p1, p2, s2, s3, by omega⟩, ?_⟩
    rw [Bool.true_and] at k
    by_cases h2 : (f + h) * P2 s * P10 (-p) < P10 p * P2 (-s)
    · rw [decide_eq_true h2]
      rw [decide_eq_false (by omega)] at k
      exact k
    · rw [decide_eq_false h2]
      rw [decide_eq_true (by omega)] at k
      exact k


theorem at_is_sound (T : Txt K mg) (B : BaseT K mg base) (KX : K.In base) (PS : Sup P mf) (A_power_fraction : FnAt P w K mg base 2 "power_fraction" ["power"] sp_power_fraction) (A_run_slope : FnAt P w K mg base 2 "run_slope" ["row"] sp_run_slope) (A_is_above : FnAt P w K mg base 1 "is_above" ["one", "other"] sp_is_above) (A_top_slope : FnAt P w K mg base 2 "top_slope" ["row"] sp_top_slope) : FnAt P w K mg base 3 "is_sound" ["row"] sp_is_sound :=
  fn_at (c := c_is_sound) T.d_is_sound sc_is_sound (fun f cdv A outer s H E hr => by
    have nd := sc_is_sound.nd
    exact (css_cons (cs_set nd (ce_f A_power_fraction hr (ca_cons (ce_ix (CE.bo (ce_v 0)) ce_i) ca_nil)))
    (css_one (cs_ret (CE.bo (ce_and (ce_not (ce_f A_is_above hr (ca_cons (ce_f A_run_slope hr (ca_cons (ce_v 0) ca_nil)) (ca_cons (ce_v 1) ca_nil)))) (ce_one (ce_not (ce_f A_is_above hr (ca_cons (ce_v 1) (ca_cons (ce_f A_top_slope hr (ca_cons (ce_v 0) ca_nil)) ca_nil)))))))))))
    (fun ds hc Q E h => len_is_sound h) (fun ds hc Q E h => pure_is_sound h) (fun _ _ _ _ _ _ us hl => match us, hl with | [_], _ => rfl)

abbrev N__law_sound : List Str := ["_law_row_here", "_law_power_here", "_law_factor", "_law_shift", "_law_height", "_law_num", "_law_den"]
def c__law_sound : CSx :=
  (cSeq (cAsg (cV 0) (gUn 4 (gCons' (gN 1) (gCons' (gN 2) (gCons' (gN 3) (gCons' (gN 4) gNil'))))))
    (cSeq (cPar 5 6 (cCons (cOp shlD (cCall sp__law_ten (cCons (cV 1) cNil)) (cFn maxD2 (cCons (cC (.int 0)) (cCons (cOp subD (cC (.int 0)) (cV 3)) cNil)))) (cCons (cOp shlD (cCall sp__law_ten (cCons (cOp subD (cC (.int 0)) (cV 1)) cNil)) (cFn maxD2 (cCons (cC (.int 0)) (cCons (cV 3) cNil)))) cNil)))
    (cRet (cCh leD leD (cOp mulD (cV 2) (cV 6)) (cV 5) (cOp mulD (cOp addD (cV 2) (cV 4)) (cV 6))))))

def sp__law_sound : Spc := fun ds hc Q _ => ∃ (q f s h : Int), ds = [.tup [.int q, .int f, .int s, .int h]] ∧ q.natAbs ≤ 400 ∧ f.natAbs < 2 ^ 290 ∧ (f + h).natAbs < 2 ^ 290 ∧ s.natAbs ≤ 3000 ∧ Q (.bl (soundB q f s h)) hc
theorem len__law_sound {ds : List D} {hc : CH} {Q E} (h : sp__law_sound ds hc Q E) : ds.length = 1 := by
  obtain ⟨q, f, s, h, rfl, _⟩ := h
  rfl
theorem pure__law_sound {ds : List D} {hc : CH} {Q : D → CH → Prop} {E} (h : sp__law_sound ds hc Q E) : c__law_sound { nx := fun _ hc' => Q .non hc', rt := Q, xp := fun x _ hc' => E x hc' } (startC N__law_sound ds) hc := by
  obtain ⟨q, f, s, h, rfl, hq, hf, hfh, hs, k⟩ := h
  unfold c__law_sound N__law_sound
  have pb : (P10 q).natAbs < 2 ^ (4 * 400 + 1) := P10_bits q 400 (by omega)
  have pb2 : (P10 (0 - q)).natAbs < 2 ^ (4 * 400 + 1) := P10_bits (0 - q) 400 (by omega)
  refine seq_step fun M hM => ?_
  walk_at "n"
  refine hM _ _ ?_
  refine seq_step fun M hM => ?_
  walk_at "n"
  refine ⟨q, rfl, by omega, ?_⟩
  show CShl (P10 q) _ ∧ _
  refine ⟨shl_maxB pb (by omega) (by decide), 0 - q, rfl, by omega, ?_⟩
  show CShl (P10 (0 - q)) _ ∧ _
  refine ⟨shl_maxB pb2 (by omega) (by decide), hM _ _ ?_⟩
  dsimp only
  rw [p2_max, p2_max, show 0 - s = -s by omega, show 0 - q = -q by omega]
  walk_at "n"
  have mb : (P10 (-q) * P2 s).natAbs < 2 ^ 4602 := mul_pow (k := 1601) (l := 3001) (P10_bits (-q) 400 (by omega)) (P2_bits s 3000 (by omega))
  refine ⟨mulOk 290 4602 hf mb (by decide), ?_⟩
  unfold soundB at k
  rw [show f * P2 s * P10 (-q) = f * (P10 (-q) * P2 s) by rw [Int.mul_assoc, Int.mul_comm (P2 s)], show (f + h) * P2 s * P10 (-q) = (f + h) * (P10 (-q) * P2 s) by rw [Int.mul_assoc, Int.mul_comm (P2 s)]] at k
  by_cases z : f * (P10 (-q) * P2 s) ≤ P10 q * P2 (-s)
  · rw [decide_eq_true z] at k ⊢
    exact ⟨mulOk 290 4602 hfh mb (by decide), k⟩
  · rw [decide_eq_false z] at k ⊢
    exact k



theorem at__law_sound (T : Txt K mg) (B : BaseT K mg base) (KX : K.In base) (PS : Sup P mf) (A__law_ten : FnAt P w K mg base 1 "_law_ten" ["_law_many"] sp__law_ten) : FnAt P w K mg base 2 "_law_sound" ["_law_row_here"] sp__law_sound :=
  fn_at (c := c__law_sound) T.d__law_sound sc__law_sound (fun f cdv A outer s H E hr => by
    have nd := sc__law_sound.nd
    exact (css_cons (cs_asg (ce_v 0) (cg_u rfl (cgs_cons (cg_n 1 nd) (cgs_cons (cg_n 2 nd) (cgs_cons (cg_n 3 nd) (cgs_cons (cg_n 4 nd) cgs_nil))))))
    (css_cons (cs_par rfl nd (ca_cons (ce_op op_shlD (CE.bo (ce_f A__law_ten hr (ca_cons (ce_v 1) ca_nil))) (CE.bo (ce_bf (bf_max2 rfl) T.n_max (cba_cons (CE.bo ce_i) (cba_cons (CE.bo (ce_op op_subD (CE.bo ce_i) (CE.bo (ce_v 3)))) cba_nil))))) (ca_cons (ce_op op_shlD (CE.bo (ce_f A__law_ten hr (ca_cons (ce_op op_subD (CE.bo ce_i) (CE.bo (ce_v 1))) ca_nil))) (CE.bo (ce_bf (bf_max2 rfl) T.n_max (cba_cons (CE.bo ce_i) (cba_cons (CE.bo (ce_v 3)) cba_nil))))) ca_nil)))
    (css_one (cs_ret (CE.bo (ce_ch op_leD op_leD (CE.bo (ce_op op_mulD (CE.bo (ce_v 2)) (CE.bo (ce_v 6)))) (CE.bo (ce_v 5)) (CE.bo (ce_op op_mulD (CE.bo (ce_op op_addD (CE.bo (ce_v 2)) (CE.bo (ce_v 4)))) (CE.bo (ce_v 6)))))))))))
    (fun ds hc Q E h => len__law_sound h) (fun ds hc Q E h => pure__law_sound h) (fun _ _ _ _ _ _ us hl => match us, hl with | [_], _ => rfl)

abbrev N__law_ways : List Str := []
def c__law_ways : CSx :=
  (cRet (cLst (cCons (cC (.str "even")) (cCons (cC (.str "away")) (cCons (cC (.str "zero")) (cCons (cC (.str "out")) (cCons (cC (.str "odd")) cNil)))))))

def sp__law_ways : Spc := fun ds hc Q _ => ds = [] ∧ Q (.lst [.str "even", .str "away", .str "zero", .str "out", .str "odd"]) hc
theorem len__law_ways {ds : List D} {hc : CH} {Q E} (h : sp__law_ways ds hc Q E) : ds.length = 0 := by
  obtain ⟨rfl, _⟩ := h
  rfl
theorem pure__law_ways {ds : List D} {hc : CH} {Q : D → CH → Prop} {E} (h : sp__law_ways ds hc Q E) : c__law_ways { nx := fun _ hc' => Q .non hc', rt := Q, xp := fun x _ hc' => E x hc' } (startC N__law_ways ds) hc := by
  obtain ⟨rfl, k⟩ := h
  unfold c__law_ways N__law_ways
  walk_at "n"
  exact ⟨by decide, k⟩



theorem at__law_ways (T : Txt K mg) (B : BaseT K mg base) (KX : K.In base) (PS : Sup P mf)  : FnAt P w K mg base 1 "_law_ways" [] sp__law_ways :=
  fn_at (c := c__law_ways) T.d__law_ways sc__law_ways (fun f cdv A outer s H E hr => by
    have nd := sc__law_ways.nd
    exact (css_one (cs_ret (CE.bo (ce_lst (ca_cons ce_s (ca_cons ce_s (ca_cons ce_s (ca_cons ce_s (ca_cons ce_s ca_nil))))))))))
    (fun ds hc Q E h => len__law_ways h) (fun ds hc Q E h => pure__law_ways h) (fun _ _ _ _ _ _ us hl => match us, hl with | [], _ => rfl)

abbrev N_check_sound : List Str := ["row"]
def c_check_sound : CSx :=
  (cIfS (cNot (cT (cCall sp_is_sound (cCons (cV 0) cNil))))
    (cRaise "NotSound" "power" (cOp ixD (cV 0) (cC (.int 0))))
    cNext)

def sp_check_sound : Spc := fun ds hc Q E => ∃ (q f s h : Int), ds = [.tup [.int q, .int f, .int s, .int h]] ∧ q.natAbs ≤ 100000 ∧ f.natAbs < 2 ^ 100000 ∧ (f + h).natAbs < 2 ^ 100000 ∧ s.natAbs ≤ 100000 ∧ (soundB q f s h = true → Q .non hc) ∧ (soundB q f s h = false → E ⟨"NotSound", [("power", .int q)]⟩ hc)
theorem len_check_sound {ds : List D} {hc : CH} {Q E} (h : sp_check_sound ds hc Q E) : ds.length = 1 := by
  obtain ⟨q, f, s, h, rfl, _⟩ := h
  rfl
theorem pure_check_sound {ds : List D} {hc : CH} {Q : D → CH → Prop} {E} (h : sp_check_sound ds hc Q E) : c_check_sound { nx := fun _ hc' => Q .non hc', rt := Q, xp := fun x _ hc' => E x hc' } (startC N_check_sound ds) hc := by
  obtain ⟨q, f, s, h, rfl, hq, hf, hfh, hs, k1, k2⟩ := h
  unfold c_check_sound N_check_sound
  walk_at "n"
  refine ⟨q, f, s, h, rfl, hq, hf, hfh, hs, ?_⟩
  show if (!soundB q f s h) = true then E ⟨"NotSound", [("power", .int q)]⟩ hc else Q .non hc
  cases z : soundB q f s h with
  | true =>
    rw [if_neg (by decide)]
    exact k1 z
  | false =>
    rw [if_pos (by decide)]
    exact k2 z



theorem at_check_sound (T : Txt K mg) (B : BaseT K mg base) (KX : K.In base) (PS : Sup P mf) (A_is_sound : FnAt P w K mg base 3 "is_sound" ["row"] sp_is_sound) : FnAt P w K mg base 4 "check_sound" ["row"] sp_check_sound :=
  fn_at (c := c_check_sound) T.d_check_sound sc_check_sound (fun f cdv A outer s H E hr => by
    have nd := sc_check_sound.nd
    exact (css_one (cs_if (ct_not (ct_e (ce_f A_is_sound hr (ca_cons (ce_v 0) ca_nil))))
    (css_one (cs_raiseC hr T.x_NotSound PS T.n_super (ce_ix (CE.bo (ce_v 0)) ce_i)))
    css_nil)))
    (fun ds hc Q E h => len_check_sound h) (fun ds hc Q E h => pure_check_sound h) (fun _ _ _ _ _ _ us hl => match us, hl with | [_], _ => rfl)

abbrev N_floor_log : List Str := ["num", "den", "t", "low", "high"]
def c_floor_log : CSx :=
  (cSeq (cAsg (cOp subD (cUn bitsD (cV 0)) (cUn bitsD (cV 1))) (gN 2))
    (cSeq (cAsg (cCall sp_shifted (cCons (cV 1) (cCons (cC (.int 1)) (cCons (cV 2) cNil)))) (gUn 2 (gCons' (gN 3) (gCons' (gN 4) gNil'))))
    (cRet (cIf (cT (cOp geD (cOp mulD (cV 0) (cV 4)) (cV 3))) (cV 2) (cOp subD (cV 2) (cC (.int 1)))))))

def sp_floor_log : Spc := fun ds hc Q _ => ∃ (n d : Int) (a : Nat), ds = [.int n, .int d] ∧ n.natAbs < 2 ^ a ∧ d.natAbs < 2 ^ a ∧ a ≤ 1000000 ∧ Q (.int (flogF n d)) hc
theorem len_floor_log {ds : List D} {hc : CH} {Q E} (h : sp_floor_log ds hc Q E) : ds.length = 2 := by
  obtain ⟨n, d, a, rfl, _⟩ := h
  rfl
theorem pure_floor_log {ds : List D} {hc : CH} {Q : D → CH → Prop} {E} (h : sp_floor_log ds hc Q E) : c_floor_log { nx := fun _ hc' => Q .non hc', rt := Q, xp := fun x _ hc' => E x hc' } (startC N_floor_log ds) hc := by
  obtain ⟨n, d, a, rfl, hn, hd, ha, k⟩ := h
  have b1 := intBits_le hn
  have b2 := intBits_le hd
  unfold c_floor_log N_floor_log
  refine seq_step fun M hM => ?_
  walk_at "n"
  refine hM _ _ ?_
  unfold flogF at k
  revert k
  generalize ht : ((Builtin.Int.intBits n : Nat) : Int) - ((Builtin.Int.intBits d : Nat) : Int) = t
  intro k
  refine seq_step fun M hM => ?_
  walk_at "n"
  refine ⟨d, 1, t, rfl, fun z => shlOk (b := a) hd z (by omega) (by omega), fun z => shlOk (a := 2) (b := a) (by decide) (by omega) (by omega) (by omega), ?_⟩
  walk_at "n"
  refine hM _ _ ?_
  walk_at "n"
  have m1 : (P2 (-t)).natAbs < 2 ^ (a + 1) := P2_bits (-t) a (by omega)
  rw [Int.one_mul]
  refine ⟨mulOk a (a + 1) hn m1 (by omega), ?_⟩
  refine ite2 (fun h => ?_) (fun h => ?_)
  · rw [if_pos (of_decide_eq_true h)] at k
    exact k
  · rw [if_neg (fun z => h (decide_eq_true z))] at k
    exact k


theorem at_floor_log (T : Txt K mg) (B : BaseT K mg base) (KX : K.In base) (PS : Sup P mf) (A_shifted : FnAt P w K mg base 1 "shifted" ["num", "den", "shift"] sp_shifted) : FnAt P w K mg base 2 "floor_log" ["num", "den"] sp_floor_log :=
  fn_at (c := c_floor_log) T.d_floor_log sc_floor_log (fun f cdv A outer s H E hr => by
    have nd := sc_floor_log.nd
    exact (css_cons (cs_set nd (ce_op op_subD (CE.bo (ce_bits (CE.bo (ce_v 0)))) (CE.bo (ce_bits (CE.bo (ce_v 1))))))
    (css_cons (cs_asg (ce_f A_shifted hr (ca_cons (ce_v 1) (ca_cons ce_i (ca_cons (ce_v 2) ca_nil)))) (cg_u rfl (cgs_cons (cg_n 3 nd) (cgs_cons (cg_n 4 nd) cgs_nil))))
    (css_one (cs_ret (CE.bo (ce_if (ct_cmp op_geD (CE.bo (ce_op op_mulD (CE.bo (ce_v 0)) (CE.bo (ce_v 4)))) (CE.bo (ce_v 3))) (ce_v 2) (ce_op op_subD (CE.bo (ce_v 2)) (CE.bo ce_i)))))))))
    (fun ds hc Q E h => len_floor_log h) (fun ds hc Q E h => pure_floor_log h) (fun _ _ _ _ _ _ us hl => match us, hl with | [_, _], _ => rfl)

abbrev N_exponent_of : List Str := ["form", "num", "den", "p", "low", "high"]
def c_exponent_of : CSx :=
  (cSeq (cAsg (cV 0) (gUn 3 (gCons' (gN 3) (gCons' (gN 4) (gCons' (gN 5) gNil')))))
    (cRet (cFn minD2 (cCons (cOp addD (cV 5) (cC (.int 1))) (cCons (cFn maxD2 (cCons (cV 4) (cCons (cOp addD (cOp subD (cCall sp_floor_log (cCons (cV 1) (cCons (cV 2) cNil))) (cV 3)) (cC (.int 1))) cNil))) cNil)))))

def sp_exponent_of : Spc := fun ds hc Q _ => ∃ (p l h n d : Int) (a : Nat), ds = [fmD p l h, .int n, .int d] ∧ n.natAbs < 2 ^ a ∧ d.natAbs < 2 ^ a ∧ a ≤ 1000000 ∧ Q (.int (expF p l h n d)) hc
theorem len_exponent_of {ds : List D} {hc : CH} {Q E} (h : sp_exponent_of ds hc Q E) : ds.length = 3 := by
  obtain ⟨p, l, h, n, d, a, rfl, _⟩ := h
  rfl
theorem pure_exponent_of {ds : List D} {hc : CH} {Q : D → CH → Prop} {E} (h : sp_exponent_of ds hc Q E) : c_exponent_of { nx := fun _ hc' => Q .non hc', rt := Q, xp := fun x _ hc' => E x hc' } (startC N_exponent_of ds) hc := by
  obtain ⟨p, l, h, n, d, a, rfl, hn, hd, ha, k⟩ := h
  unfold c_exponent_of N_exponent_of
  refine seq_step fun M hM => ?_
  walk_at "n"
  refine hM _ _ ?_
  walk_at "n"
  refine ⟨n, d, a, rfl, hn, hd, ha, ?_⟩
  walk_at "n"
  exact k


theorem at_exponent_of (T : Txt K mg) (B : BaseT K mg base) (KX : K.In base) (PS : Sup P mf) (A_floor_log : FnAt P w K mg base 2 "floor_log" ["num", "den"] sp_floor_log) : FnAt P w K mg base 3 "exponent_of" ["form", "num", "den"] sp_exponent_of :=
  fn_at (c := c_exponent_of) T.d_exponent_of sc_exponent_of (fun f cdv A outer s H E hr => by
    have nd := sc_exponent_of.nd
    exact (css_cons (cs_asg (ce_v 0) (cg_u rfl (cgs_cons (cg_n 3 nd) (cgs_cons (cg_n 4 nd) (cgs_cons (cg_n 5 nd) cgs_nil)))))
    (css_one (cs_ret (CE.bo (ce_bf (bf_min2 rfl) T.n_min (cba_cons (CE.bo (ce_op op_addD (CE.bo (ce_v 5)) (CE.bo ce_i))) (cba_cons (CE.bo (ce_bf (bf_max2 rfl) T.n_max (cba_cons (CE.bo (ce_v 4)) (cba_cons (CE.bo (ce_op op_addD (CE.bo (ce_op op_subD (CE.bo (ce_f A_floor_log hr (ca_cons (ce_v 1) (ca_cons (ce_v 2) ca_nil)))) (CE.bo (ce_v 3)))) (CE.bo ce_i))) cba_nil)))) cba_nil))))))))
    (fun ds hc Q E h => len_exponent_of h) (fun ds hc Q E h => pure_exponent_of h) (fun _ _ _ _ _ _ us hl => match us, hl with | [_, _, _], _ => rfl)

abbrev N_position_line : List Str := ["form", "slope", "exponent", "p", "low", "high", "num", "den", "below"]
def c_position_line : CSx :=
  (cSeq (cAsg (cV 0) (gUn 3 (gCons' (gN 3) (gCons' (gN 4) (gCons' (gN 5) gNil')))))
    (cSeq (cAsg (cV 1) (gUn 2 (gCons' (gN 6) (gCons' (gN 7) gNil'))))
    (cSeq (cAsg (cOp shlD (cV 7) (cFn maxD2 (cCons (cC (.int 0)) (cCons (cV 2) cNil)))) (gN 8))
    (cRet (cTup (cCons (cOp shlD (cV 6) (cFn maxD2 (cCons (cC (.int 0)) (cCons (cUn negD (cV 2)) cNil)))) (cCons (cOp mulD (cOp shlD (cOp subD (cV 2) (cV 4)) (cOp subD (cV 3) (cC (.int 1)))) (cV 8)) (cCons (cV 8) cNil))))))))

def sp_position_line : Spc := fun ds hc Q _ => ∃ (p l h n d e : Int) (a : Nat), ds = [fmD p l h, .tup [.int n, .int d], .int e] ∧ Fm p l h ∧ l ≤ e ∧ e ≤ h ∧ n.natAbs < 2 ^ a ∧ d.natAbs < 2 ^ a ∧ a ≤ 900000 ∧ Q (.tup [.int (n * P2 (-e)), .int ((e - l) * halfI p * (d * P2 e)), .int (d * P2 e)]) hc
theorem len_position_line {ds : List D} {hc : CH} {Q E} (h : sp_position_line ds hc Q E) : ds.length = 3 := by
  obtain ⟨p, l, h, n, d, e, a, rfl, _⟩ := h
  rfl
theorem pure_position_line {ds : List D} {hc : CH} {Q : D → CH → Prop} {E} (h : sp_position_line ds hc Q E) : c_position_line { nx := fun _ hc' => Q .non hc', rt := Q, xp := fun x _ hc' => E x hc' } (startC N_position_line ds) hc := by
  obtain ⟨p, l, h, n, d, e, a, rfl, f, e0, e1, hn, hd, ha, k⟩ := h
  have p0 := f.p0
  have p1 := f.p1
  have l0 := f.l0
  have lh := f.lh
  have h1 := f.h1
  have Wb : (d * P2 e).natAbs < 2 ^ (a + 1201) := mul_pow hd (P2_bits e 1200 (by omega))
  have m2 : Mn.MulOk ((e - l) * halfI p) (d * P2 e) := mulOk 140 (a + 1201) (mul_pow (k := 12) (l := 128) (by omega) (halfI_bits p1)) Wb (by omega)
  unfold c_position_line N_position_line
  refine seq_step fun M hM => ?_
  walk_at "n"
  refine hM _ _ ?_
  refine seq_step fun M hM => ?_
  walk_at "n"
  refine hM _ _ ?_
  refine seq_step fun M hM => ?_
  walk_at "n"
  refine ⟨shl_max hd (by omega) ha, ?_⟩
  rw [p2_max]
  refine hM _ _ ?_
  walk_at "n"
  refine ⟨shl_max hn (by omega) ha, shlOk (a := 12) (b := 128) (by omega) (by omega) (by omega) (by decide), m2, by decide, ?_⟩
  rw [p2_max]
  exact k


theorem at_position_line (T : Txt K mg) (B : BaseT K mg base) (KX : K.In base) (PS : Sup P mf)  : FnAt P w K mg base 1 "position_line" ["form", "slope", "exponent"] sp_position_line :=
  fn_at (c := c_position_line) T.d_position_line sc_position_line (fun f cdv A outer s H E hr => by
    have nd := sc_position_line.nd
    exact (css_cons (cs_asg (ce_v 0) (cg_u rfl (cgs_cons (cg_n 3 nd) (cgs_cons (cg_n 4 nd) (cgs_cons (cg_n 5 nd) cgs_nil)))))
    (css_cons (cs_asg (ce_v 1) (cg_u rfl (cgs_cons (cg_n 6 nd) (cgs_cons (cg_n 7 nd) cgs_nil))))
    (css_cons (cs_set nd (ce_op op_shlD (CE.bo (ce_v 7)) (CE.bo (ce_bf (bf_max2 rfl) T.n_max (cba_cons (CE.bo ce_i) (cba_cons (CE.bo (ce_v 2)) cba_nil))))))
    (css_one (cs_ret (CE.bo (ce_tup (ca_cons (ce_op op_shlD (CE.bo (ce_v 6)) (CE.bo (ce_bf (bf_max2 rfl) T.n_max (cba_cons (CE.bo ce_i) (cba_cons (CE.bo (ce_un un_negD (CE.bo (ce_v 2)))) cba_nil))))) (ca_cons (ce_op op_mulD (CE.bo (ce_op op_shlD (CE.bo (ce_op op_subD (CE.bo (ce_v 2)) (CE.bo (ce_v 4)))) (CE.bo (ce_op op_subD (CE.bo (ce_v 3)) (CE.bo ce_i))))) (CE.bo (ce_v 8))) (ca_cons (ce_v 8) ca_nil)))))))))))
    (fun ds hc Q E h => len_position_line h) (fun ds hc Q E h => pure_position_line h) (fun _ _ _ _ _ _ us hl => match us, hl with | [_, _, _], _ => rfl)

abbrev N_below_half_stair : List Str := ["way", "line"]
def c_below_half_stair : CSx :=
  (cRet (cTup (cCons (cTup (cCons (cOp ixD (cV 1) (cC (.int 0))) (cCons (cOp subD (cOp ixD (cV 1) (cC (.int 1))) (cC (.int 1))) (cCons (cOp mulD (cC (.int 2)) (cOp ixD (cV 1) (cC (.int 2)))) cNil)))) cNil)))

def sp_below_half_stair : Spc := fun ds _ _ _ => ∃ x y : D, ds = [x, y] ∧ False
theorem len_below_half_stair {ds : List D} {hc : CH} {Q E} (h : sp_below_half_stair ds hc Q E) : ds.length = 2 := by
  obtain ⟨x, y, rfl, _⟩ := h
  rfl
theorem pure_below_half_stair {ds : List D} {hc : CH} {Q : D → CH → Prop} {E} (h : sp_below_half_stair ds hc Q E) : c_below_half_stair { nx := fun _ hc' => Q .non hc', rt := Q, xp := fun x _ hc' => E x hc' } (startC N_below_half_stair ds) hc := by
  obtain ⟨x, y, rfl, z⟩ := h
  unfold c_below_half_stair N_below_half_stair
  exact z.elim



theorem at_below_half_stair (T : Txt K mg) (B : BaseT K mg base) (KX : K.In base) (PS : Sup P mf)  : FnAt P w K mg base 1 "below_half_stair" ["way", "line"] sp_below_half_stair :=
  fn_at (c := c_below_half_stair) T.d_below_half_stair sc_below_half_stair (fun f cdv A outer s H E hr => by
    have nd := sc_below_half_stair.nd
    exact (css_one (cs_ret (CE.bo (ce_tup (ca_cons (ce_tup (ca_cons (ce_ix (CE.bo (ce_v 1)) ce_i) (ca_cons (ce_op op_subD (CE.bo (ce_ix (CE.bo (ce_v 1)) ce_i)) (CE.bo ce_i)) (ca_cons (ce_op op_mulD (CE.bo ce_i) (CE.bo (ce_ix (CE.bo (ce_v 1)) ce_i))) ca_nil)))) ca_nil))))))
    (fun ds hc Q E h => len_below_half_stair h) (fun ds hc Q E h => pure_below_half_stair h) (fun _ _ _ _ _ _ us hl => match us, hl with | [_, _], _ => rfl)

abbrev N_half_stair : List Str := ["way", "line"]
def c_half_stair : CSx :=
  (cRet (cTup (cCons (cTup (cCons (cOp ixD (cV 1) (cC (.int 0))) (cCons (cOp ixD (cV 1) (cC (.int 1))) (cCons (cOp mulD (cC (.int 2)) (cOp ixD (cV 1) (cC (.int 2)))) cNil)))) cNil)))

def sp_half_stair : Spc := fun ds _ _ _ => ∃ x y : D, ds = [x, y] ∧ False
theorem len_half_stair {ds : List D} {hc : CH} {Q E} (h : sp_half_stair ds hc Q E) : ds.length = 2 := by
  obtain ⟨x, y, rfl, _⟩ := h
  rfl
theorem pure_half_stair {ds : List D} {hc : CH} {Q : D → CH → Prop} {E} (h : sp_half_stair ds hc Q E) : c_half_stair { nx := fun _ hc' => Q .non hc', rt := Q, xp := fun x _ hc' => E x hc' } (startC N_half_stair ds) hc := by
  obtain ⟨x, y, rfl, z⟩ := h
  unfold c_half_stair N_half_stair
  exact z.elim



theorem at_half_stair (T : Txt K mg) (B : BaseT K mg base) (KX : K.In base) (PS : Sup P mf)  : FnAt P w K mg base 1 "half_stair" ["way", "line"] sp_half_stair :=
  fn_at (c := c_half_stair) T.d_half_stair sc_half_stair (fun f cdv A outer s H E hr => by
    have nd := sc_half_stair.nd
    exact (css_one (cs_ret (CE.bo (ce_tup (ca_cons (ce_tup (ca_cons (ce_ix (CE.bo (ce_v 1)) ce_i) (ca_cons (ce_ix (CE.bo (ce_v 1)) ce_i) (ca_cons (ce_op op_mulD (CE.bo ce_i) (CE.bo (ce_ix (CE.bo (ce_v 1)) ce_i))) ca_nil)))) ca_nil))))))
    (fun ds hc Q E h => len_half_stair h) (fun ds hc Q E h => pure_half_stair h) (fun _ _ _ _ _ _ us hl => match us, hl with | [_, _], _ => rfl)

abbrev N_read_stair : List Str := ["way", "line", "a", "b", "c"]
def c_read_stair : CSx :=
  (cSeq (cAsg (cV 1) (gUn 3 (gCons' (gN 2) (gCons' (gN 3) (gCons' (gN 4) gNil')))))
    (cSeq (cMatch (cV 0) [(some "even", (cRet (cTup (cCons (cTup (cCons (cOp mulD (cC (.int 2)) (cV 2)) (cCons (cOp addD (cOp mulD (cC (.int 2)) (cV 3)) (cV 4)) (cCons (cOp mulD (cC (.int 4)) (cV 4)) cNil)))) (cCons (cTup (cCons (cOp mulD (cC (.int 2)) (cV 2)) (cCons (cOp subD (cOp addD (cOp mulD (cC (.int 2)) (cV 3)) (cOp mulD (cC (.int 3)) (cV 4))) (cC (.int 1))) (cCons (cOp mulD (cC (.int 4)) (cV 4)) cNil)))) cNil))))), (some "away", (cRet (cTup (cCons (cTup (cCons (cOp mulD (cC (.int 2)) (cV 2)) (cCons (cOp addD (cOp mulD (cC (.int 2)) (cV 3)) (cV 4)) (cCons (cOp mulD (cC (.int 2)) (cV 4)) cNil)))) cNil)))), (some "zero", (cRet (cTup (cCons (cV 1) cNil)))), (some "out", (cRet (cTup (cCons (cTup (cCons (cV 2) (cCons (cOp subD (cOp addD (cV 3) (cV 4)) (cC (.int 1))) (cCons (cV 4) cNil)))) cNil))))])
    (cRet (cTup (cCons (cTup (cCons (cV 2) (cCons (cV 3) (cCons (cOp mulD (cC (.int 2)) (cV 4)) cNil)))) (cCons (cTup (cCons (cV 2) (cCons (cOp subD (cOp addD (cV 3) (cOp mulD (cC (.int 2)) (cV 4))) (cC (.int 1))) (cCons (cOp mulD (cC (.int 2)) (cV 4)) cNil)))) cNil))))))

def sp_read_stair : Spc := fun ds hc Q _ => ∃ (w : Str) (a b c : Int), ds = [.str w, lnD a b c] ∧ Q (.tup (rdL w a b c)) hc
theorem len_read_stair {ds : List D} {hc : CH} {Q E} (h : sp_read_stair ds hc Q E) : ds.length = 2 := by
  obtain ⟨w, a, b, c, rfl, _⟩ := h
  rfl
theorem pure_read_stair {ds : List D} {hc : CH} {Q : D → CH → Prop} {E} (h : sp_read_stair ds hc Q E) : c_read_stair { nx := fun _ hc' => Q .non hc', rt := Q, xp := fun x _ hc' => E x hc' } (startC N_read_stair ds) hc := by
  obtain ⟨w, a, b, c, rfl, k⟩ := h
  unfold c_read_stair N_read_stair
  refine seq_step fun M hM => ?_
  walk_at "n"
  refine hM _ _ ?_
  unfold rdL at k
  refine seq_step fun M hM => ?_
  walk_at "n"
  split
  · next z =>
    rw [if_pos z] at k
    repeat' first | exact mulOk_l (by decide) | exact k | refine ⟨?_, ?_⟩ | decide
  next z =>
  rw [if_neg z] at k
  split
  · next z =>
    rw [if_pos z] at k
    repeat' first | exact mulOk_l (by decide) | exact k | refine ⟨?_, ?_⟩ | decide
  next z =>
  rw [if_neg z] at k
  split
  · next z =>
    rw [if_pos z] at k
    repeat' first | exact mulOk_l (by decide) | exact k | refine ⟨?_, ?_⟩ | decide
  next z =>
  rw [if_neg z] at k
  split
  · next z =>
    rw [if_pos z] at k
    repeat' first | exact mulOk_l (by decide) | exact k | refine ⟨?_, ?_⟩ | decide
  next z =>
  rw [if_neg z] at k
  refine hM _ _ ?_
  walk_at "n"
  repeat' first | exact mulOk_l (by decide) | exact k | refine ⟨?_, ?_⟩ | decide



theorem at_read_stair (T : Txt K mg) (B : BaseT K mg base) (KX : K.In base) (PS : Sup P mf)  : FnAt P w K mg base 1 "read_stair" ["way", "line"] sp_read_stair :=
  fn_at (c := c_read_stair) T.d_read_stair sc_read_stair (fun f cdv A outer s H E hr => by
    have nd := sc_read_stair.nd
    exact (css_cons (cs_asg (ce_v 1) (cg_u rfl (cgs_cons (cg_n 2 nd) (cgs_cons (cg_n 3 nd) (cgs_cons (cg_n 4 nd) cgs_nil)))))
    (css_cons (cs_match (ce_v 0) (Arms.val (css_one (cs_ret (CE.bo (ce_tup (ca_cons (ce_tup (ca_cons (ce_op op_mulD (CE.bo ce_i) (CE.bo (ce_v 2))) (ca_cons (ce_op op_addD (CE.bo (ce_op op_mulD (CE.bo ce_i) (CE.bo (ce_v 3)))) (CE.bo (ce_v 4))) (ca_cons (ce_op op_mulD (CE.bo ce_i) (CE.bo (ce_v 4))) ca_nil)))) (ca_cons (ce_tup (ca_cons (ce_op op_mulD (CE.bo ce_i) (CE.bo (ce_v 2))) (ca_cons (ce_op op_subD (CE.bo (ce_op op_addD (CE.bo (ce_op op_mulD (CE.bo ce_i) (CE.bo (ce_v 3)))) (CE.bo (ce_op op_mulD (CE.bo ce_i) (CE.bo (ce_v 4)))))) (CE.bo ce_i)) (ca_cons (ce_op op_mulD (CE.bo ce_i) (CE.bo (ce_v 4))) ca_nil)))) ca_nil)))))) (Arms.val (css_one (cs_ret (CE.bo (ce_tup (ca_cons (ce_tup (ca_cons (ce_op op_mulD (CE.bo ce_i) (CE.bo (ce_v 2))) (ca_cons (ce_op op_addD (CE.bo (ce_op op_mulD (CE.bo ce_i) (CE.bo (ce_v 3)))) (CE.bo (ce_v 4))) (ca_cons (ce_op op_mulD (CE.bo ce_i) (CE.bo (ce_v 4))) ca_nil)))) ca_nil))))) (Arms.val (css_one (cs_ret (CE.bo (ce_tup (ca_cons (ce_v 1) ca_nil))))) (Arms.val (css_one (cs_ret (CE.bo (ce_tup (ca_cons (ce_tup (ca_cons (ce_v 2) (ca_cons (ce_op op_subD (CE.bo (ce_op op_addD (CE.bo (ce_v 3)) (CE.bo (ce_v 4)))) (CE.bo ce_i)) (ca_cons (ce_v 4) ca_nil)))) ca_nil))))) Arms.nil)))))
    (css_one (cs_ret (CE.bo (ce_tup (ca_cons (ce_tup (ca_cons (ce_v 2) (ca_cons (ce_v 3) (ca_cons (ce_op op_mulD (CE.bo ce_i) (CE.bo (ce_v 4))) ca_nil)))) (ca_cons (ce_tup (ca_cons (ce_v 2) (ca_cons (ce_op op_subD (CE.bo (ce_op op_addD (CE.bo (ce_v 3)) (CE.bo (ce_op op_mulD (CE.bo ce_i) (CE.bo (ce_v 4)))))) (CE.bo ce_i)) (ca_cons (ce_op op_mulD (CE.bo ce_i) (CE.bo (ce_v 4))) ca_nil)))) ca_nil)))))))))
    (fun ds hc Q E h => len_read_stair h) (fun ds hc Q E h => pure_read_stair h) (fun _ _ _ _ _ _ us hl => match us, hl with | [_, _], _ => rfl)

abbrev N_half_of : List Str := ["form"]
def c_half_of : CSx :=
  (cRet (cOp shlD (cC (.int 1)) (cOp subD (cOp ixD (cV 0) (cC (.int 0))) (cC (.int 1)))))

def sp_half_of : Spc := fun ds hc Q _ => ∃ (p : Int) (x y : D), ds = [.tup [.int p, x, y]] ∧ 1 ≤ p ∧ p ≤ 128 ∧ Q (.int (halfI p)) hc
theorem len_half_of {ds : List D} {hc : CH} {Q E} (h : sp_half_of ds hc Q E) : ds.length = 1 := by
  obtain ⟨p, x, y, rfl, _⟩ := h
  rfl
theorem pure_half_of {ds : List D} {hc : CH} {Q : D → CH → Prop} {E} (h : sp_half_of ds hc Q E) : c_half_of { nx := fun _ hc' => Q .non hc', rt := Q, xp := fun x _ hc' => E x hc' } (startC N_half_of ds) hc := by
  obtain ⟨p, x, y, rfl, p0, p1, k⟩ := h
  unfold c_half_of N_half_of
  walk_at "n"
  refine ⟨shlOk (a := 1) (b := 128) (by decide) (by omega) (by omega) (by decide), ?_⟩
  rw [Int.one_mul]
  exact k


theorem at_half_of (T : Txt K mg) (B : BaseT K mg base) (KX : K.In base) (PS : Sup P mf)  : FnAt P w K mg base 1 "half_of" ["form"] sp_half_of :=
  fn_at (c := c_half_of) T.d_half_of sc_half_of (fun f cdv A outer s H E hr => by
    have nd := sc_half_of.nd
    exact (css_one (cs_ret (CE.bo (ce_op op_shlD (CE.bo ce_i) (CE.bo (ce_op op_subD (CE.bo (ce_ix (CE.bo (ce_v 0)) ce_i)) (CE.bo ce_i))))))))
    (fun ds hc Q E h => len_half_of h) (fun ds hc Q E h => pure_half_of h) (fun _ _ _ _ _ _ us hl => match us, hl with | [_], _ => rfl)

abbrev N_count_of : List Str := ["form", "precision", "low", "high"]
def c_count_of : CSx :=
  (cSeq (cAsg (cV 0) (gUn 3 (gCons' (gN 1) (gCons' (gN 2) (gCons' (gN 3) gNil')))))
    (cRet (cOp mulD (cOp addD (cOp subD (cV 3) (cV 2)) (cC (.int 2))) (cCall sp_half_of (cCons (cV 0) cNil)))))

def sp_count_of : Spc := fun ds hc Q _ => ∃ (p l h : Int), ds = [fmD p l h] ∧ Fm p l h ∧ Q (.int (cntI p l h)) hc
theorem len_count_of {ds : List D} {hc : CH} {Q E} (h : sp_count_of ds hc Q E) : ds.length = 1 := by
  obtain ⟨p, x, y, rfl, _⟩ := h
  rfl
theorem pure_count_of {ds : List D} {hc : CH} {Q : D → CH → Prop} {E} (h : sp_count_of ds hc Q E) : c_count_of { nx := fun _ hc' => Q .non hc', rt := Q, xp := fun x _ hc' => E x hc' } (startC N_count_of ds) hc := by
  obtain ⟨p, l, h, rfl, f, k⟩ := h
  unfold c_count_of N_count_of
  refine seq_step fun M hM => ?_
  walk_at "n"
  refine hM _ _ ?_
  walk_at "n"
  refine ⟨p, _, _, rfl, f.p0, f.p1, mulOk_l ⟨by have := f.lh; have := f.l0; have := f.h1; omega, by have := f.lh; have := f.l0; have := f.h1; omega⟩, ?_⟩
  exact k


theorem at_count_of (T : Txt K mg) (B : BaseT K mg base) (KX : K.In base) (PS : Sup P mf) (A_half_of : FnAt P w K mg base 1 "half_of" ["form"] sp_half_of) : FnAt P w K mg base 2 "count_of" ["form"] sp_count_of :=
  fn_at (c := c_count_of) T.d_count_of sc_count_of (fun f cdv A outer s H E hr => by
    have nd := sc_count_of.nd
    exact (css_cons (cs_asg (ce_v 0) (cg_u rfl (cgs_cons (cg_n 1 nd) (cgs_cons (cg_n 2 nd) (cgs_cons (cg_n 3 nd) cgs_nil)))))
    (css_one (cs_ret (CE.bo (ce_op op_mulD (CE.bo (ce_op op_addD (CE.bo (ce_op op_subD (CE.bo (ce_v 3)) (CE.bo (ce_v 2)))) (CE.bo ce_i))) (CE.bo (ce_f A_half_of hr (ca_cons (ce_v 0) ca_nil)))))))))
    (fun ds hc Q E h => len_count_of h) (fun ds hc Q E h => pure_count_of h) (fun _ _ _ _ _ _ us hl => match us, hl with | [_], _ => rfl)

abbrev N_beyond_code : List Str := ["form", "way", "many"]
def c_beyond_code : CSx :=
  (cSeq (cAsg (cCall sp_count_of (cCons (cV 0) cNil)) (gN 2))
    (cSeq (cIfS (cT (cOp eqD (cV 1) (cC (.str "zero"))))
    (cRet (cOp subD (cV 2) (cC (.int 1))))
    cNext)
    (cRet (cIf (cT (cOp eqD (cV 1) (cC (.str "odd")))) (cOp addD (cOp subD (cV 2) (cC (.int 1))) (cOp modD (cV 2) (cC (.int 2)))) (cV 2)))))

def sp_beyond_code : Spc := fun ds hc Q _ => ∃ (w : Str) (p l h : Int), ds = [fmD p l h, .str w] ∧ Fm p l h ∧ Q (.int (bynd w p l h)) hc
theorem len_beyond_code {ds : List D} {hc : CH} {Q E} (h : sp_beyond_code ds hc Q E) : ds.length = 2 := by
  obtain ⟨w, p, l, h, rfl, _⟩ := h
  rfl
theorem pure_beyond_code {ds : List D} {hc : CH} {Q : D → CH → Prop} {E} (h : sp_beyond_code ds hc Q E) : c_beyond_code { nx := fun _ hc' => Q .non hc', rt := Q, xp := fun x _ hc' => E x hc' } (startC N_beyond_code ds) hc := by
  obtain ⟨w, p, l, h, rfl, f, k⟩ := h
  unfold c_beyond_code N_beyond_code
  refine seq_step fun M hM => ?_
  walk_at "n"
  refine ⟨p, l, h, rfl, f, hM _ _ ?_⟩
  unfold bynd at k
  refine seq_step fun M2 hM2 => ?_
  walk_at "n"
  refine ite2 (fun z => ?_) (fun z => ?_)
  · rw [if_pos (of_decide_eq_true z)] at k
    exact k
  · rw [if_neg (fun y => z (decide_eq_true y))] at k
    refine hM2 _ _ ?_
    walk_at "n"
    refine ite2 (fun z => ?_) (fun z => ?_)
    · rw [if_pos (of_decide_eq_true z)] at k
      walk_at "n"
      exact ⟨by decide, k⟩
    · rw [if_neg (fun y => z (decide_eq_true y))] at k
      walk_at "n"
      exact k



theorem at_beyond_code (T : Txt K mg) (B : BaseT K mg base) (KX : K.In base) (PS : Sup P mf) (A_count_of : FnAt P w K mg base 2 "count_of" ["form"] sp_count_of) : FnAt P w K mg base 3 "beyond_code" ["form", "way"] sp_beyond_code :=
  fn_at (c := c_beyond_code) T.d_beyond_code sc_beyond_code (fun f cdv A outer s H E hr => by
    have nd := sc_beyond_code.nd
    exact (css_cons (cs_set nd (ce_f A_count_of hr (ca_cons (ce_v 0) ca_nil)))
    (css_cons (cs_if (ct_cmp (op_eqDD hr.g.units) (CE.bo (ce_v 1)) (CE.bo (ce_gc (T.k_ZERO))))
    (css_one (cs_ret (CE.bo (ce_op op_subD (CE.bo (ce_v 2)) (CE.bo ce_i)))))
    css_nil)
    (css_one (cs_ret (CE.bo (ce_if (ct_cmp (op_eqDD hr.g.units) (CE.bo (ce_v 1)) (CE.bo (ce_gc (T.k_ODD)))) (ce_op op_addD (CE.bo (ce_op op_subD (CE.bo (ce_v 2)) (CE.bo ce_i))) (CE.bo (ce_op op_modD (CE.bo (ce_v 2)) (CE.bo ce_i)))) (ce_v 2))))))))
    (fun ds hc Q E h => len_beyond_code h) (fun ds hc Q E h => pure_beyond_code h) (fun _ _ _ _ _ _ us hl => match us, hl with | [_, _], _ => rfl)

abbrev N_stair_on : List Str := ["kind", "form", "way", "slope", "exponent", "code"]
def c_stair_on : CSx :=
  (cSeq (cIfS (cT (cOp leD (cV 4) (cOp ixD (cV 1) (cC (.int 2)))))
    (cRet (cCallF [("below_half_stair", sp_below_half_stair), ("half_stair", sp_half_stair), ("read_stair", sp_read_stair)] 0 (cCons (cV 2) (cCons (cCall sp_position_line (cCons (cV 1) (cCons (cV 3) (cCons (cV 4) cNil)))) cNil))))
    cNext)
    (cSeq (cAsg (cCall sp_beyond_code (cCons (cV 1) (cCons (cV 2) cNil))) (gN 5))
    (cRet (cTup (cCons (cTup (cCons (cC (.int 0)) (cCons (cIf (cT (cOp (inFD fvL) (cV 0) (cTup (cCons (cFnV "half_stair") (cCons (cFnV "below_half_stair") cNil))))) (cOp fdivD (cV 5) (cC (.int 2))) (cV 5)) (cCons (cC (.int 1)) cNil)))) cNil)))))

def sp_stair_on : Spc := fun ds hc Q _ => ∃ (up : Bool) (w : Str) (p l h n d e : Int) (a : Nat), ds = [.fn (stN (up && false)), fmD p l h, .str w, .tup [.int n, .int d], .int e] ∧ Fm p l h ∧ l ≤ e ∧ n.natAbs < 2 ^ a ∧ d.natAbs < 2 ^ a ∧ a ≤ 900000 ∧ Q (.tup (stairL (up && false) w p l h n d e)) hc
theorem len_stair_on {ds : List D} {hc : CH} {Q E} (h : sp_stair_on ds hc Q E) : ds.length = 5 := by
  obtain ⟨up, w, p, l, h, n, d, e, a, rfl, _⟩ := h
  rfl
theorem pure_stair_on {ds : List D} {hc : CH} {Q : D → CH → Prop} {E} (h : sp_stair_on ds hc Q E) : c_stair_on { nx := fun _ hc' => Q .non hc', rt := Q, xp := fun x _ hc' => E x hc' } (startC N_stair_on ds) hc := by
  obtain ⟨up, w, p, l, h, n, d, e, a, rfl, f, e0, hn, hd, ha, k⟩ := h
  simp only [Bool.and_false] at k ⊢
  unfold c_stair_on N_stair_on
  refine seq_step fun M hM => ?_
  walk_at "n"
  have h1 := f.h1
  unfold stairL at k
  refine ite2 (fun z => ?_) (fun z => ?_)
  · have z := of_decide_eq_true z
    rw [if_pos z] at k
    refine callF_at sp_read_stair rfl rfl ?_
    walk_at "n"
    refine ⟨p, l, h, n, d, e, a, rfl, f, e0, z, hn, hd, ha, ?_⟩
    walk_at "n"
    exact ⟨w, _, _, _, rfl, k⟩
  · have z : ¬ e ≤ h := fun y => z (decide_eq_true y)
    rw [if_neg z] at k
    refine hM _ _ ?_
    refine seq_step fun M hM => ?_
    walk_at "n"
    refine ⟨w, p, l, h, rfl, f, hM _ _ ?_⟩
    walk_at "n"
    refine ⟨by decide, ["half_stair", "below_half_stair"], rfl, by decide +kernel, by decide +kernel, ?_⟩
    rw [if_neg (by decide +kernel)]
    exact ⟨by decide, by decide, k⟩



theorem at_stair_on (T : Txt K mg) (B : BaseT K mg base) (KX : K.In base) (PS : Sup P mf) (A_position_line : FnAt P w K mg base 1 "position_line" ["form", "slope", "exponent"] sp_position_line) (A_below_half_stair : FnAt P w K mg base 1 "below_half_stair" ["way", "line"] sp_below_half_stair) (A_half_stair : FnAt P w K mg base 1 "half_stair" ["way", "line"] sp_half_stair) (A_read_stair : FnAt P w K mg base 1 "read_stair" ["way", "line"] sp_read_stair) (A_beyond_code : FnAt P w K mg base 3 "beyond_code" ["form", "way"] sp_beyond_code) : FnAt P w K mg base 4 "stair_on" ["kind", "form", "way", "slope", "exponent"] sp_stair_on :=
  fn_at (c := c_stair_on) T.d_stair_on sc_stair_on (fun f cdv A outer s H E hr => by
    have nd := sc_stair_on.nd
    exact (css_cons (cs_if (ct_cmp op_leD (CE.bo (ce_v 4)) (CE.bo (ce_ix (CE.bo (ce_v 1)) ce_i)))
    (css_one (cs_ret (CE.bo (ce_callF (tbl := [("below_half_stair", sp_below_half_stair), ("half_stair", sp_half_stair), ("read_stair", sp_read_stair)]) hr (ft_cons A_below_half_stair T.v_below_half_stair (ft_cons A_half_stair T.v_half_stair (ft_cons A_read_stair T.v_read_stair ft_nil))) (ca_cons (ce_v 2) (ca_cons (ce_f A_position_line hr (ca_cons (ce_v 1) (ca_cons (ce_v 3) (ca_cons (ce_v 4) ca_nil)))) ca_nil))))))
    css_nil)
    (css_cons (cs_set nd (ce_f A_beyond_code hr (ca_cons (ce_v 1) (ca_cons (ce_v 2) ca_nil))))
    (css_one (cs_ret (CE.bo (ce_tup (ca_cons (ce_tup (ca_cons ce_i (ca_cons (ce_if (ct_cmp (op_inFD T.fv hr.g) (CE.bo (ce_v 0)) (CE.bo (ce_tup (ca_cons (ce_fnv T.v_half_stair) (ca_cons (ce_fnv T.v_below_half_stair) ca_nil))))) (ce_op op_fdivD (CE.bo (ce_v 5)) (CE.bo ce_i)) (ce_v 5)) (ca_cons ce_i ca_nil)))) ca_nil))))))))
    (fun ds hc Q E h => len_stair_on h) (fun ds hc Q E h => pure_stair_on h) (fun _ _ _ _ _ _ us hl => match us, hl with | [_, _, _, _, _], _ => rfl)

abbrev N_value_at : List Str := ["line", "x", "a", "b", "c"]
def c_value_at : CSx :=
  (cSeq (cAsg (cV 0) (gUn 3 (gCons' (gN 2) (gCons' (gN 3) (gCons' (gN 4) gNil')))))
    (cRet (cOp fdivD (cOp addD (cOp mulD (cV 2) (cV 1)) (cV 3)) (cV 4))))

def sp_value_at : Spc := fun ds hc Q _ => ∃ a b c x, ds = [.tup [.int a, .int b, .int c], .int x] ∧ MulOk a x ∧ DivOk (a * x + b) c ∧ Q (.int ((a * x + b) / c)) hc
theorem len_value_at {ds : List D} {hc : CH} {Q E} (h : sp_value_at ds hc Q E) : ds.length = 2 := by
  obtain ⟨a, b, c, x, rfl, _⟩ := h
  rfl
theorem pure_value_at {ds : List D} {hc : CH} {Q : D → CH → Prop} {E} (h : sp_value_at ds hc Q E) : c_value_at { nx := fun _ hc' => Q .non hc', rt := Q, xp := fun x _ hc' => E x hc' } (startC N_value_at ds) hc := by
  obtain ⟨a, b, c, x, rfl, h1, h2, q⟩ := h
  exact ⟨rfl, h1, h2, q⟩


theorem at_value_at (T : Txt K mg) (B : BaseT K mg base) (KX : K.In base) (PS : Sup P mf)  : FnAt P w K mg base 1 "value_at" ["line", "x"] sp_value_at :=
  fn_at (c := c_value_at) T.d_value_at sc_value_at (fun f cdv A outer s H E hr => by
    have nd := sc_value_at.nd
    exact (css_cons (cs_asg (ce_v 0) (cg_u rfl (cgs_cons (cg_n 2 nd) (cgs_cons (cg_n 3 nd) (cgs_cons (cg_n 4 nd) cgs_nil)))))
    (css_one (cs_ret (CE.bo (ce_op op_fdivD (CE.bo (ce_op op_addD (CE.bo (ce_op op_mulD (CE.bo (ce_v 2)) (CE.bo (ce_v 1)))) (CE.bo (ce_v 3)))) (CE.bo (ce_v 4))))))))
    (fun ds hc Q E h => len_value_at h) (fun ds hc Q E h => pure_value_at h) (fun _ _ _ _ _ _ us hl => match us, hl with | [_, _], _ => rfl)

abbrev N_stair_at : List Str := ["stair", "x", "line"]
def c_stair_at : CSx :=
  (cRet (cFn sumD (cCons (cLc (cIt (cV 0)) (gN 2) cYes (cCall sp_value_at (cCons (cV 2) (cCons (cV 1) cNil))) [2]) cNil)))

def sp_stair_at : Spc := fun ds hc Q _ => ∃ (ls : List Ln) (x : Int), ds = [.tup (lnsD ls), .int x] ∧ ls.length ≤ 2 ∧ (∀ z ∈ ls, Mn.MulOk z.1 x ∧ DivOk (z.1 * x + z.2.1) z.2.2) ∧ Q (.int (stV ls x)) hc
theorem len_stair_at {ds : List D} {hc : CH} {Q E} (h : sp_stair_at ds hc Q E) : ds.length = 2 := by
  obtain ⟨ls, x, rfl, _⟩ := h
  rfl
theorem pure_stair_at {ds : List D} {hc : CH} {Q : D → CH → Prop} {E} (h : sp_stair_at ds hc Q E) : c_stair_at { nx := fun _ hc' => Q .non hc', rt := Q, xp := fun x _ hc' => E x hc' } (startC N_stair_at ds) hc := by
  obtain ⟨ls, x, rfl, hl, ok, k⟩ := h
  unfold c_stair_at N_stair_at
  walk_at "n"
  refine lc_step fun R hR => ?_
  walk_at "n"
  refine hR _ _ (fun d => match d with | .tup [.int a, .int b, .int c] => .int ((a * x + b) / c) | _ => .non) (by unfold lnsD; rw [List.length_map, sizeLine_eq]; omega) (fun d hd Nx k => ?_) ?_
  · obtain ⟨z, hz, rfl⟩ := List.mem_map.mp hd
    walk_at "n"
    exact ⟨_, _, _, _, rfl, (ok z hz).1, (ok z hz).2, k⟩
  · have e : ∀ ls : List Ln, (lnsD ls).map (fun d => match d with | .tup [.int a, .int b, .int c] => D.int ((a * x + b) / c) | _ => .non) = (ls.map fun z => lnV z x).map D.int := fun ls => by
      unfold lnsD
      rw [List.map_map, List.map_map]
      rfl
    rw [e]
    refine o_sum ?_
    rw [stV_sum]
    exact k



theorem at_stair_at (T : Txt K mg) (B : BaseT K mg base) (KX : K.In base) (PS : Sup P mf) (A_value_at : FnAt P w K mg base 1 "value_at" ["line", "x"] sp_value_at) : FnAt P w K mg base 2 "stair_at" ["stair", "x"] sp_stair_at :=
  fn_at (c := c_stair_at) T.d_stair_at sc_stair_at (fun f cdv A outer s H E hr => by
    have nd := sc_stair_at.nd
    exact (css_one (cs_ret (CE.bo (ce_bf (bf_sum rfl) T.n_sum (cba_cons (CE.bo (ce_lc rfl nd (own := [("line", 2)]) (ci_e (ce_v 0)) (blkOk_by (N := ["stair", "x", "line"]) (sc := defScope s_stair_at) (own := [("line", 2)]) (by decide +kernel)) (fun _ _ _ _ _ => (cgk_n 2 nd)) (fun _ _ _ _ _ => cts_nil) (fun _ _ _ _ _ => (ce_f A_value_at hr.b (ca_cons (ce_v 2) (ca_cons (ce_v 1) ca_nil)))))) cba_nil))))))
    (fun ds hc Q E h => len_stair_at h) (fun ds hc Q E h => pure_stair_at h) (fun _ _ _ _ _ _ us hl => match us, hl with | [_, _], _ => rfl)

abbrev N_told_by : List Str := ["kind", "form", "way", "slope", "number", "exponent"]
def c_told_by : CSx :=
  (cSeq (cAsg (cCall sp_exponent_of (cCons (cV 1) (cCons (cOp mulD (cOp ixD (cV 3) (cC (.int 0))) (cV 4)) (cCons (cOp ixD (cV 3) (cC (.int 1))) cNil)))) (gN 5))
    (cRet (cCall sp_stair_at (cCons (cCall sp_stair_on (cCons (cV 0) (cCons (cV 1) (cCons (cV 2) (cCons (cV 3) (cCons (cV 5) cNil)))))) (cCons (cV 4) cNil)))))

def sp_told_by : Spc := fun ds hc Q _ => ∃ (up : Bool) (w : Str) (p l h n d x : Int), ds = [.fn (stN (up && false)), fmD p l h, .str w, .tup [.int n, .int d], .int x] ∧ Fm p l h ∧ IsWay w ∧ 0 < n ∧ 0 < d ∧ 0 < x ∧ n.natAbs < 2 ^ 3300 ∧ d.natAbs < 2 ^ 3300 ∧ x.natAbs < 2 ^ 300 ∧ ∀ c, FlAt p l h (unA (n * x) l) (unB d l) c → Q (.int (toldI (up && false) w c (sideU p c (unA (n * x) l) (unB d l)))) hc
theorem len_told_by {ds : List D} {hc : CH} {Q E} (h : sp_told_by ds hc Q E) : ds.length = 5 := by
  obtain ⟨up, w, p, l, h, n, d, x, rfl, _⟩ := h
  rfl
theorem pure_told_by {ds : List D} {hc : CH} {Q : D → CH → Prop} {E} (h : sp_told_by ds hc Q E) : c_told_by { nx := fun _ hc' => Q .non hc', rt := Q, xp := fun x _ hc' => E x hc' } (startC N_told_by ds) hc := by
  obtain ⟨up, w, p, l, h, n, d, x, rfl, f, hw, n0, d0, x0, hn, hd, hx, k⟩ := h
  unfold c_told_by N_told_by
  have nx0 : 0 < n * x := Int.mul_pos n0 x0
  have hnx : (n * x).natAbs < 2 ^ 3600 := mul_pow hn hx
  obtain ⟨c, fl⟩ := fl_exists (p := p) (l := l) (h := h) (A := unA (n * x) l) (B := unB d l) f (Int.mul_nonneg (Int.le_of_lt nx0) (Int.le_of_lt (P2_pos _)))
  have k := k c fl
  rw [← told_at f hw nx0 d0 fl] at k
  refine seq_step fun M hM => ?_
  walk_at "n"
  refine ⟨mulOk 3300 300 hn hx (by decide), p, l, h, n * x, d, 3600, rfl, hnx, up_pow 3600 hd (by decide), by decide, hM _ _ ?_⟩
  walk_at "n"
  refine ⟨up, w, p, l, h, n, d, _, 3600, rfl, f, expF_lo f, up_pow 3600 hn (by decide), up_pow 3600 hd (by decide), by decide, ?_⟩
  rw [← stairZ_ok]
  have l0 := f.l0
  have h1 := f.h1
  have e0 := expF_lo (n := n * x) (d := d) f
  refine ⟨_, x, rfl, stairZ_len, stairZ_sz d0 (mul_pow hn (P2_bits _ 1200 (by omega))) (fun z => mul_pow hd (P2_bits _ 1200 (by omega))) hx, k⟩



theorem at_told_by (T : Txt K mg) (B : BaseT K mg base) (KX : K.In base) (PS : Sup P mf) (A_exponent_of : FnAt P w K mg base 3 "exponent_of" ["form", "num", "den"] sp_exponent_of) (A_stair_on : FnAt P w K mg base 4 "stair_on" ["kind", "form", "way", "slope", "exponent"] sp_stair_on) (A_stair_at : FnAt P w K mg base 2 "stair_at" ["stair", "x"] sp_stair_at) : FnAt P w K mg base 5 "told_by" ["kind", "form", "way", "slope", "number"] sp_told_by :=
  fn_at (c := c_told_by) T.d_told_by sc_told_by (fun f cdv A outer s H E hr => by
    have nd := sc_told_by.nd
    exact (css_cons (cs_set nd (ce_f A_exponent_of hr (ca_cons (ce_v 1) (ca_cons (ce_op op_mulD (CE.bo (ce_ix (CE.bo (ce_v 3)) ce_i)) (CE.bo (ce_v 4))) (ca_cons (ce_ix (CE.bo (ce_v 3)) ce_i) ca_nil)))))
    (css_one (cs_ret (CE.bo (ce_f A_stair_at hr (ca_cons (ce_f A_stair_on hr (ca_cons (ce_v 0) (ca_cons (ce_v 1) (ca_cons (ce_v 2) (ca_cons (ce_v 3) (ca_cons (ce_v 5) ca_nil)))))) (ca_cons (ce_v 4) ca_nil))))))))
    (fun ds hc Q E h => len_told_by h) (fun ds hc Q E h => pure_told_by h) (fun _ _ _ _ _ _ us hl => match us, hl with | [_, _, _, _, _], _ => rfl)

abbrev N_guarded_read : List Str := ["form", "way", "row", "number", "found"]
def c_guarded_read : CSx :=
  (cSeq (cDrop (cCall sp_check_sound (cCons (cV 2) cNil)))
    (cSeq (cIfS (cT (cOp eqD (cV 3) (cC (.int 0))))
    (cRet (cC (.int 0)))
    cNext)
    (cSeq (cAsg (cCall sp_told_by (cCons (cFnV "read_stair") (cCons (cV 0) (cCons (cV 1) (cCons (cCall sp_run_slope (cCons (cV 2) cNil)) (cCons (cV 3) cNil)))))) (gN 4))
    (cRet (cIf (cT (cOp eqD (cCall sp_told_by (cCons (cFnV "read_stair") (cCons (cV 0) (cCons (cV 1) (cCons (cCall sp_top_slope (cCons (cV 2) cNil)) (cCons (cV 3) cNil)))))) (cV 4))) (cV 4) (cC .non))))))

def sp_guarded_read : Spc := fun ds hc Q E => ∃ (w : Str) (p l h q f s k x : Int), ds = [fmD p l h, .str w, .tup [.int q, .int f, .int s, .int k], .int x] ∧ Fm p l h ∧ IsWay w ∧ RwOk q f s k ∧ 0 ≤ x ∧ x.natAbs < 2 ^ 300 ∧ (soundB q f s k = false → E ⟨"NotSound", [("power", .int q)]⟩ hc) ∧ (soundB q f s k = true → x = 0 → Q (.int 0) hc) ∧ (soundB q f s k = true → 0 < x → ∀ c c2, FlAt p l h (unA (f * P2 s * x) l) (unB (P2 (-s)) l) c → FlAt p l h (unA ((f + k) * P2 s * x) l) (unB (P2 (-s)) l) c2 → Q (if readI w c2 (sideU p c2 (unA ((f + k) * P2 s * x) l) (unB (P2 (-s)) l)) = readI w c (sideU p c (unA (f * P2 s * x) l) (unB (P2 (-s)) l)) then .int (readI w c (sideU p c (unA (f * P2 s * x) l) (unB (P2 (-s)) l))) else .non) hc)
theorem len_guarded_read {ds : List D} {hc : CH} {Q E} (h : sp_guarded_read ds hc Q E) : ds.length = 4 := by
  obtain ⟨w, p, l, h, q, f, s, k, x, rfl, _⟩ := h
  rfl
theorem pure_guarded_read {ds : List D} {hc : CH} {Q : D → CH → Prop} {E} (h : sp_guarded_read ds hc Q E) : c_guarded_read { nx := fun _ hc' => Q .non hc', rt := Q, xp := fun x _ hc' => E x hc' } (startC N_guarded_read ds) hc := by
  obtain ⟨w, p, l, h, q, f, s, k, x, rfl, fm, hw, r, x0, hx, k1, kz, k2⟩ := h
  unfold c_guarded_read N_guarded_read
  obtain ⟨z1, z2, z3⟩ := r.sl
  have f0 : 0 < f * P2 s := Int.mul_pos r.f0 (P2_pos s)
  refine seq_step fun M hM => ?_
  walk_at "n"
  refine ⟨q, f, s, k, rfl, by have := r.qb; omega, up_pow 100000 r.fb (Nat.le_of_ble_eq_true rfl), up_pow 100000 r.fhb (Nat.le_of_ble_eq_true rfl), by have := r.sb; omega, fun z => hM _ _ ?_, k1⟩
  have k2 := k2 z
  have kz := kz z
  refine seq_step fun M hM => ?_
  walk_at "n"
  by_cases xz : x = 0
  · rw [if_pos (by rw [decide_eq_true xz])]
    exact kz xz
  have x0 : 0 < x := by omega
  have k2 := k2 x0
  rw [if_neg (by rw [decide_eq_false (by omega)]; exact Bool.false_ne_true)]
  refine hM _ _ ?_
  have t0 : 0 < (f + k) * P2 s := Int.mul_pos (by have := r.f0; have := r.h0; omega) (P2_pos s)
  obtain ⟨c, fl⟩ := fl_exists (p := p) (l := l) (h := h) (A := unA (f * P2 s * x) l) (B := unB (P2 (-s)) l) fm (Int.mul_nonneg (Int.le_of_lt (Int.mul_pos f0 x0)) (Int.le_of_lt (P2_pos _)))
  obtain ⟨c2, fl2⟩ := fl_exists (p := p) (l := l) (h := h) (A := unA ((f + k) * P2 s * x) l) (B := unB (P2 (-s)) l) fm (Int.mul_nonneg (Int.le_of_lt (Int.mul_pos t0 x0)) (Int.le_of_lt (P2_pos _)))
  have k2 := k2 c c2 fl fl2
  have un : ∀ c', FlAt p l h (unA (f * P2 s * x) l) (unB (P2 (-s)) l) c' → c' = c := fun c' y => y.uniq (Int.mul_pos (P2_pos _) (P2_pos _)) fl
  have un2 : ∀ c', FlAt p l h (unA ((f + k) * P2 s * x) l) (unB (P2 (-s)) l) c' → c' = c2 := fun c' y => y.uniq (Int.mul_pos (P2_pos _) (P2_pos _)) fl2
  refine seq_step fun M hM => ?_
  walk_at "n"
  refine ⟨q, f, s, k, 290, rfl, r.fb, by decide, by have := r.sb; omega, ?_⟩
  refine ⟨false, w, p, l, h, _, _, x, rfl, fm, hw, f0, P2_pos (-s), x0, z1, z2, hx, fun c' y => ?_⟩
  rw [un c' y]
  refine hM _ _ ?_
  walk_at "n"
  refine ⟨q, f, s, k, 290, rfl, r.fhb, by decide, by have := r.sb; omega, ?_⟩
  refine ⟨false, w, p, l, h, _, _, x, rfl, fm, hw, t0, P2_pos (-s), x0, z3, z2, hx, fun c' y => ?_⟩
  rw [un2 c' y]
  revert k2
  show _ → eqD (.int (readI w c2 (sideU p c2 (unA ((f + k) * P2 s * x) l) (unB (P2 (-s)) l)))) (.int (readI w c (sideU p c (unA (f * P2 s * x) l) (unB (P2 (-s)) l)))) hc fun d => match d with
    | .bl b => if b = true then Q (.int (readI w c (sideU p c (unA (f * P2 s * x) l) (unB (P2 (-s)) l)))) hc else Q .non hc
    | _ => False
  generalize readI w c (sideU p c (unA (f * P2 s * x) l) (unB (P2 (-s)) l)) = A
  generalize readI w c2 (sideU p c2 (unA ((f + k) * P2 s * x) l) (unB (P2 (-s)) l)) = B
  intro k2
  walk_at "n"
  refine ite2 (fun z => ?_) (fun z => ?_)
  · rw [if_pos (of_decide_eq_true z)] at k2
    exact k2
  · rw [if_neg (fun y => z (decide_eq_true y))] at k2
    exact k2



theorem at_guarded_read (T : Txt K mg) (B : BaseT K mg base) (KX : K.In base) (PS : Sup P mf) (A_check_sound : FnAt P w K mg base 4 "check_sound" ["row"] sp_check_sound) (A_run_slope : FnAt P w K mg base 2 "run_slope" ["row"] sp_run_slope) (A_told_by : FnAt P w K mg base 5 "told_by" ["kind", "form", "way", "slope", "number"] sp_told_by) (A_top_slope : FnAt P w K mg base 2 "top_slope" ["row"] sp_top_slope) : FnAt P w K mg base 6 "guarded_read" ["form", "way", "row", "number"] sp_guarded_read :=
  fn_at (c := c_guarded_read) T.d_guarded_read sc_guarded_read (fun f cdv A outer s H E hr => by
    have nd := sc_guarded_read.nd
    exact (css_cons (cs_expr (ce_f A_check_sound hr (ca_cons (ce_v 2) ca_nil)))
    (css_cons (cs_if (ct_cmp (op_eqDD hr.g.units) (CE.bo (ce_v 3)) (CE.bo ce_i))
    (css_one (cs_ret (CE.bo ce_i)))
    css_nil)
    (css_cons (cs_set nd (ce_f A_told_by hr (ca_cons (ce_fnv T.v_read_stair) (ca_cons (ce_v 0) (ca_cons (ce_v 1) (ca_cons (ce_f A_run_slope hr (ca_cons (ce_v 2) ca_nil)) (ca_cons (ce_v 3) ca_nil)))))))
    (css_one (cs_ret (CE.bo (ce_if (ct_cmp (op_eqDD hr.g.units) (CE.bo (ce_f A_told_by hr (ca_cons (ce_fnv T.v_read_stair) (ca_cons (ce_v 0) (ca_cons (ce_v 1) (ca_cons (ce_f A_top_slope hr (ca_cons (ce_v 2) ca_nil)) (ca_cons (ce_v 3) ca_nil))))))) (CE.bo (ce_v 4))) (ce_v 4) ce_n))))))))
    (fun ds hc Q E h => len_guarded_read h) (fun ds hc Q E h => pure_guarded_read h) (fun _ _ _ _ _ _ us hl => match us, hl with | [_, _, _, _], _ => rfl)

abbrev N__law_told_run : List Str := ["_law_form_here", "_law_way", "_law_row_here", "_law_number", "_law_found", "error"]
def c__law_told_run : CSx :=
  (cSeq (cTryAs [("NotSound", true)]
    (cAsg (cCall sp_guarded_read (cCons (cV 0) (cCons (cV 1) (cCons (cV 2) (cCons (cV 3) cNil))))) (gN 4)) 5 (fun a y d =>
    (cSeq (cIfS (cOr (cNot (cT (cIsX [("NotSound", true)] a y d 5))) (cNot (cT (cIsX [("NotSound", true)] a y d 5))))
    (cRet (cLst cNil))
    cNext)
    (cRet (cLst (cCons (cXf ["NotSound"] a y d 5 "power") cNil))))))
    (cRet (cV 4)))

def sp__law_told_run : Spc := fun ds hc Q _ => ∃ (w : Str) (p l h q f s k x : Int), ds = [fmD p l h, .str w, .tup [.int q, .int f, .int s, .int k], .int x] ∧ Fm p l h ∧ IsWay w ∧ RwOk q f s k ∧ 0 ≤ x ∧ x.natAbs < 2 ^ 300 ∧ (soundB q f s k = false → Q (.lst [.int q]) hc) ∧ (soundB q f s k = true → x = 0 → Q (.int 0) hc) ∧ (soundB q f s k = true → 0 < x → ∀ c c2, FlAt p l h (unA (f * P2 s * x) l) (unB (P2 (-s)) l) c → FlAt p l h (unA ((f + k) * P2 s * x) l) (unB (P2 (-s)) l) c2 → Q (if readI w c2 (sideU p c2 (unA ((f + k) * P2 s * x) l) (unB (P2 (-s)) l)) = readI w c (sideU p c (unA (f * P2 s * x) l) (unB (P2 (-s)) l)) then .int (readI w c (sideU p c (unA (f * P2 s * x) l) (unB (P2 (-s)) l))) else .non) hc)
theorem len__law_told_run {ds : List D} {hc : CH} {Q E} (h : sp__law_told_run ds hc Q E) : ds.length = 4 := by
  obtain ⟨w, p, l, h, q, f, s, k, x, rfl, _⟩ := h
  rfl
theorem pure__law_told_run {ds : List D} {hc : CH} {Q : D → CH → Prop} {E} (h : sp__law_told_run ds hc Q E) : c__law_told_run { nx := fun _ hc' => Q .non hc', rt := Q, xp := fun x _ hc' => E x hc' } (startC N__law_told_run ds) hc := by
  obtain ⟨w, p, l, h, q, f, s, k, x, rfl, fm, hw, r, x0, hx, k1, kz, k2⟩ := h
  unfold c__law_told_run N__law_told_run
  refine seq_step fun M hM => ?_
  walk_at "n"
  rw [e_TryAs]
  refine ⟨rfl, ?_⟩
  walk_at "n"
  refine ⟨w, p, l, h, q, f, s, k, x, rfl, fm, hw, r, x0, hx, fun z => ?_, fun z y => ?_, fun z y c c2 y1 y2 => ?_⟩
  · show ∀ (a : Addr) (dx : Option Addr), _
    intro a dx
    refine seq_step fun M2 hM2 => ?_
    walk_at "n"
    rw [show List.lookup (Str.ofString "NotSound") [(Str.ofString "NotSound", true)] = some true from rfl]
    refine hM2 _ _ ?_
    walk_at "n"
    exact ⟨rfl, by decide, k1 z⟩
  · refine hM _ _ ?_
    walk_at "n"
    exact kz z y
  · have k2 := k2 z y c c2 y1 y2
    refine hM _ _ ?_
    walk_at "n"
    exact k2


theorem at__law_told_run (T : Txt K mg) (B : BaseT K mg base) (KX : K.In base) (PS : Sup P mf) (A_guarded_read : FnAt P w K mg base 6 "guarded_read" ["form", "way", "row", "number"] sp_guarded_read) : FnAt P w K mg base 7 "_law_told_run" ["_law_form_here", "_law_way", "_law_row_here", "_law_number"] sp__law_told_run :=
  fn_at (c := c__law_told_run) T.d__law_told_run sc__law_told_run (fun f cdv A outer s H E hr => by
    have nd := sc__law_told_run.nd
    exact (css_cons (cs_try_asC (ct := [("NotSound", true)]) hr nd T.g_NumberError (fun C hz => (exm_cons T.e_NotSound_NumberError hz exm_nil))
    (fun W1 pn1 xe1 hr => (css_one (cs_set nd (ce_f A_guarded_read hr (ca_cons (ce_v 0) (ca_cons (ce_v 1) (ca_cons (ce_v 2) (ca_cons (ce_v 3) ca_nil))))))))
    (fun a oe y cls d pn hy hz hv => (css_cons (cs_if (CW.t (cw_or (ct_not (ct_e (ce_isK (tb := [("NotSound", true)]) (i := 5) T.g_NotSound (fun C hzz => (isk_cons (T.j_NotSound_NotSound.at hzz) isk_nil)) T.n_isinstance hy hz hv))) (cw_or1 (ct_not (ct_e (ce_isT (tb := [("NotSound", true)]) (i := 5) T.n_ValueError (isk_cons T.j_NotSound_ValueError isk_nil) T.n_isinstance hy hz hv))))))
    (css_one (cs_ret (CE.bo (ce_lst ca_nil))))
    css_nil)
    (css_one (cs_ret (CE.bo (ce_lst (ca_cons (ce_xf (ys := ["NotSound"]) (i := 5) (tx_cons T.x_NotSound tx_nil) hy hz hv) ca_nil))))))))
    (css_one (cs_ret (CE.bo (ce_v 4))))))
    (fun ds hc Q E h => len__law_told_run h) (fun ds hc Q E h => pure__law_told_run h) (fun _ _ _ _ _ _ us hl => match us, hl with | [_, _, _, _], _ => rfl)

abbrev N__law_slope : List Str := ["_law_form_here", "_law_power_here", "_law_factor", "_law_shift", "_law_num", "_law_den", "_law_more"]
def c__law_slope : CSx :=
  (cSeq (cPar 4 5 (cCons (cOp mulD (cV 2) (cCall sp__law_ten (cCons (cV 1) cNil))) (cCons (cCall sp__law_ten (cCons (cOp subD (cC (.int 0)) (cV 1)) cNil)) cNil)))
    (cSeq (cAsg (cOp subD (cV 3) (cOp ixD (cV 0) (cC (.int 1)))) (gN 6))
    (cRet (cLst (cCons (cOp shlD (cV 4) (cFn maxD2 (cCons (cC (.int 0)) (cCons (cV 6) cNil)))) (cCons (cOp shlD (cV 5) (cFn maxD2 (cCons (cC (.int 0)) (cCons (cOp subD (cC (.int 0)) (cV 6)) cNil)))) cNil))))))

def sp__law_slope : Spc := fun ds hc Q _ => ∃ (p l h q f s : Int), ds = [fmD p l h, .int q, .int f, .int s] ∧ Fm p l h ∧ q.natAbs ≤ 400 ∧ f.natAbs < 2 ^ 300 ∧ s.natAbs ≤ 3100 ∧ Q (.lst [.int (f * P10 q * P2 (s - l)), .int (P10 (-q) * P2 (l - s))]) hc
theorem len__law_slope {ds : List D} {hc : CH} {Q E} (h : sp__law_slope ds hc Q E) : ds.length = 4 := by
  obtain ⟨p, l, h, q, f, s, rfl, _⟩ := h
  rfl
theorem pure__law_slope {ds : List D} {hc : CH} {Q : D → CH → Prop} {E} (h : sp__law_slope ds hc Q E) : c__law_slope { nx := fun _ hc' => Q .non hc', rt := Q, xp := fun x _ hc' => E x hc' } (startC N__law_slope ds) hc := by
  obtain ⟨p, l, h, q, f, s, rfl, fm, hq, hf, hs, k⟩ := h
  unfold c__law_slope N__law_slope
  have l0 := fm.l0
  have lh := fm.lh
  have h1 := fm.h1
  refine seq_step fun M hM => ?_
  walk_at "n"
  have pb : (P10 q).natAbs < 2 ^ (4 * 400 + 1) := P10_bits q 400 (by omega)
  refine ⟨q, rfl, by omega, ?_⟩
  show Mn.MulOk f (P10 q) ∧ _
  refine ⟨mulOk 300 1601 hf pb (by decide), 0 - q, rfl, by omega, hM _ _ ?_⟩
  refine seq_step fun M hM => ?_
  walk_at "n"
  refine hM _ _ ?_
  walk_at "n"
  have pb2 : (P10 (0 - q)).natAbs < 2 ^ (4 * 400 + 1) := P10_bits (0 - q) 400 (by omega)
  refine ⟨shl_maxB (mul_pow hf pb) (by omega) (by decide), shl_maxB pb2 (by omega) (by decide), by decide, ?_⟩
  rw [p2_max, p2_max, show 0 - q = -q by omega, show 0 - (s - l) = l - s by omega]
  exact k



theorem at__law_slope (T : Txt K mg) (B : BaseT K mg base) (KX : K.In base) (PS : Sup P mf) (A__law_ten : FnAt P w K mg base 1 "_law_ten" ["_law_many"] sp__law_ten) : FnAt P w K mg base 2 "_law_slope" ["_law_form_here", "_law_power_here", "_law_factor", "_law_shift"] sp__law_slope :=
  fn_at (c := c__law_slope) T.d__law_slope sc__law_slope (fun f cdv A outer s H E hr => by
    have nd := sc__law_slope.nd
    exact (css_cons (cs_par rfl nd (ca_cons (ce_op op_mulD (CE.bo (ce_v 2)) (CE.bo (ce_f A__law_ten hr (ca_cons (ce_v 1) ca_nil)))) (ca_cons (ce_f A__law_ten hr (ca_cons (ce_op op_subD (CE.bo ce_i) (CE.bo (ce_v 1))) ca_nil)) ca_nil)))
    (css_cons (cs_set nd (ce_op op_subD (CE.bo (ce_v 3)) (CE.bo (ce_ix (CE.bo (ce_v 0)) ce_i))))
    (css_one (cs_ret (CE.bo (ce_lst (ca_cons (ce_op op_shlD (CE.bo (ce_v 4)) (CE.bo (ce_bf (bf_max2 rfl) T.n_max (cba_cons (CE.bo ce_i) (cba_cons (CE.bo (ce_v 6)) cba_nil))))) (ca_cons (ce_op op_shlD (CE.bo (ce_v 5)) (CE.bo (ce_bf (bf_max2 rfl) T.n_max (cba_cons (CE.bo ce_i) (cba_cons (CE.bo (ce_op op_subD (CE.bo ce_i) (CE.bo (ce_v 6)))) cba_nil))))) ca_nil)))))))))
    (fun ds hc Q E h => len__law_slope h) (fun ds hc Q E h => pure__law_slope h) (fun _ _ _ _ _ _ us hl => match us, hl with | [_, _, _, _], _ => rfl)

abbrev N__law_values : List Str := ["_law_form_here", "_law_p", "_law_low", "_law_high", "_law_found", "_law_j", "_law_m"]
def c__law_values : CSx :=
  (cSeq (cAsg (cV 0) (gUn 3 (gCons' (gN 1) (gCons' (gN 2) (gCons' (gN 3) gNil')))))
    (cSeq (cAsg (cLRg1 (cOp shlD (cC (.int 1)) (cV 1))) (gN 4))
    (cSeq (cFor (cR2 (cCons (cC (.int 1)) (cCons (cOp addD (cOp subD (cV 3) (cV 2)) (cC (.int 1))) cNil))) (gN 5)
    (cAsg (cOp addD (cV 4) (cLc (cR2 (cCons (cOp shlD (cC (.int 1)) (cOp subD (cV 1) (cC (.int 1)))) (cCons (cOp shlD (cC (.int 1)) (cV 1)) cNil))) (gN 6) cYes (cOp shlD (cV 6) (cV 5)) [6])) (gN 4)))
    (cRet (cOp addD (cV 4) (cLst (cCons (cOp shlD (cC (.int 1)) (cOp subD (cOp addD (cV 1) (cV 3)) (cV 2))) cNil)))))))

/-! ### the values of a small format, in units of 2 ^ l -/
def vA (p c : Int) : Int := ptM p c * P2 (moreI p c)
theorem vA_two {p c : Int} (h : 0 ≤ c) : uV p c = 2 * vA p c := by
  unfold uV vA
  rw [P2_succ (half_rng h).1, Int.mul_left_comm]
theorem vA_next {p c : Int} (h : 0 ≤ c) : vA p (c + 1) = (ptM p c + 1) * P2 (moreI p c) := by
  have e := uV_next (p := p) h
  rw [vA_two (show 0 ≤ c + 1 by omega), P2_succ (half_rng h).1, Int.mul_left_comm] at e
  omega
def halL (p l h : Int) : List D := (List.range (cntN p l h + 1)).map fun c => D.int (vA p (c : Nat))
theorem hal_len {p l h : Int} (s : Sm p l h) : ((halL p l h).length : Int) = cntI p l h + 1 ∧ (halL p l h).length ≤ 413697 := by
  obtain ⟨a, b, _⟩ := cnt_sm s
  unfold halL
  rw [List.length_map, List.length_range]
  omega
theorem hal_get {p l h : Int} {j : Nat} (hj : j < cntN p l h + 1) : (halL p l h)[j]? = some (.int (vA p (j : Nat))) := by
  unfold halL
  rw [List.getElem?_map, List.getElem?_range hj]
  rfl
theorem hal_at {p l h c : Int} (s : Sm p l h) (c0 : 0 ≤ c) (c1 : c ≤ cntI p l h) : atI (halL p l h) c = some (.int (vA p c)) := by
  obtain ⟨a, b, _⟩ := cnt_sm s
  refine atI_nat' (j := c.toNat) (by omega) ?_
  rw [hal_get (by omega), show ((c.toNat : Nat) : Int) = c by omega]
theorem cut_two {xs : List D} {i : Nat} {a b : D} (ha : xs[i]? = some a) (hb : xs[i + 1]? = some b) : cutX xs (some (i : Nat)) (some (i + 2)) = [a, b] := by
  have la : i < xs.length := (List.getElem?_eq_some_iff.mp ha).1
  have lb : i + 1 < xs.length := (List.getElem?_eq_some_iff.mp hb).1
  have e1 : HT.sIx xs.length 0 (some (i : Nat)) = i := (HT.sIx_nat _ _ i).trans (Nat.min_eq_left (by omega))
  have e2 : HT.sIx xs.length xs.length (some ((i : Int) + 2)) = i + 2 := (HT.sIx_nat _ _ (i + 2)).trans (Nat.min_eq_left (by omega))
  unfold cutX
  rw [e1, e2, show i + 2 - i = 2 by omega]
  have d1 : xs.drop i = a :: xs.drop (i + 1) := by
    rw [List.drop_eq_getElem_cons la]
    congr 1
    exact Option.some.inj ((List.getElem?_eq_getElem la).symm.trans ha)
  have d2 : xs.drop (i + 1) = b :: xs.drop (i + 2) := by
    rw [List.drop_eq_getElem_cons lb]
    congr 1
    exact Option.some.inj ((List.getElem?_eq_getElem lb).symm.trans hb)
  rw [d1, d2]
  rfl
theorem hal_cut {p l h c : Int} (s : Sm p l h) (c0 : 0 ≤ c) (c1 : c < cntI p l h) : cutX (halL p l h) (some c) (some (c + 2)) = [.int (ptM p c * 2 ^ (moreI p c).toNat), .int ((ptM p c + 1) * 2 ^ (moreI p c).toNat)] := by
  obtain ⟨a, b, _⟩ := cnt_sm s
  have e : c = (c.toNat : Nat) := by omega
  have x := cut_two (xs := halL p l h) (hal_get (show c.toNat < cntN p l h + 1 by omega)) (hal_get (show c.toNat + 1 < cntN p l h + 1 by omega))
  rw [← e] at x
  rw [x, show ((c.toNat + 1 : Nat) : Int) = c + 1 by omega, vA_next c0]
  rfl
theorem row_hal {p : Int} (i n : Nat) (hn : (n : Int) = halfI p) : (List.range n).map (fun k => D.int ((halfI p + (k : Nat)) * 2 ^ (1 + (i : Nat) : Int).toNat)) = (List.range n).map ((fun c => D.int (vA p (c : Nat))) ∘ ((2 + i) * n + ·)) := by
  refine List.map_congr_left fun k hk => ?_
  have kn : k < n := List.mem_range.mp hk
  have e : (((2 + i) * n + k : Nat) : Int) = ((i : Int) + 1) * halfI p + (halfI p + k) := by
    rw [Int.natCast_add, Int.natCast_mul, hn, Int.natCast_add, Int.add_mul, Int.add_mul]
    omega
  obtain ⟨a, b⟩ := pt_of (p := p) (g := (i : Int) + 1) (f := halfI p + k) (by omega) (by omega) (by omega) (.inr (by omega))
  show _ = D.int (vA p (((2 + i) * n + k : Nat) : Int))
  unfold vA P2
  rw [e, a, b, Int.add_comm 1]
theorem low_hal {p : Int} (p1 : 1 ≤ p) (n : Nat) (hn : (n : Int) = halfI p) : (List.range (2 * n)).map (fun k => D.int (0 + (k : Nat))) = (List.range (2 * n)).map fun c => D.int (vA p (c : Nat)) := by
  refine List.map_congr_left fun k hk => ?_
  have kn : k < 2 * n := List.mem_range.mp hk
  obtain ⟨a, b⟩ := pt_of (p := p) (g := 0) (f := k) (by omega) (by omega) (by omega) (.inl rfl)
  rw [Int.zero_mul, Int.zero_add] at a b
  unfold vA
  rw [a, b, Int.zero_add, show P2 0 = 1 from rfl, Int.mul_one]
theorem okD_intsE {xs : List D} (h : ∀ x ∈ xs, ∃ i, x = .int i) : okD 1 (.lst xs) = true := by
  show xs.all (okD 0) = true
  rw [List.all_eq_true]
  intro x hx
  obtain ⟨i, rfl⟩ := h x hx
  rfl
theorem onI_ints {g : Int → Int} {lo hi : Int} : ∀ x ∈ (rngD lo hi).map (onI g), ∃ i, x = .int i := by
  intro x hx
  rw [rng_map] at hx
  obtain ⟨i, _, rfl⟩ := List.mem_map.mp hx
  exact ⟨i, rfl⟩


def sp__law_values : Spc := fun ds hc Q _ => ∃ (p l h : Int), ds = [fmD p l h] ∧ Sm p l h ∧ Q (.lst (halL p l h)) hc
theorem len__law_values {ds : List D} {hc : CH} {Q E} (h : sp__law_values ds hc Q E) : ds.length = 1 := by
  obtain ⟨p, l, h, rfl, _⟩ := h
  rfl
def shD (e : Int) : D → D
  | .int m => .int (m * 2 ^ e.toNat)
  | d => d
theorem pure__law_values {ds : List D} {hc : CH} {Q : D → CH → Prop} {E} (h : sp__law_values ds hc Q E) : c__law_values { nx := fun _ hc' => Q .non hc', rt := Q, xp := fun x _ hc' => E x hc' } (startC N__law_values ds) hc := by
  obtain ⟨p, l, h, rfl, s, k⟩ := h
  have f := s.f
  have p0 := f.p0
  have p1 := s.p1
  have l0 := f.l0
  have lh := f.lh
  have h1 := s.h1
  have hp := halfI_pos p
  have hs := half_sm p1
  obtain ⟨cb, cn, _⟩ := cnt_sm s
  have s1 : CShl 1 p := shlOk (a := 1) (b := 128) (by decide) (by omega) (by omega) (by decide)
  have s2 : CShl 1 (p - 1) := shlOk (a := 1) (b := 128) (by decide) (by omega) (by omega) (by decide)
  have s3 : CShl 1 (p + h - l) := shlOk (a := 1) (b := 3000) (by decide) (by omega) (by omega) (by decide)
  obtain ⟨n, hn⟩ : ∃ n : Nat, (n : Int) = halfI p := ⟨(halfI p).toNat, by omega⟩
  have e2 : (1 : Int) * 2 ^ p.toNat = 2 * halfI p := by rw [Int.one_mul]; exact halfI_two p0
  have e1 : (1 : Int) * 2 ^ (p - 1).toNat = halfI p := by rw [Int.one_mul]; rfl
  unfold c__law_values N__law_values
  refine seq_step fun M hM => ?_
  walk_at "n"
  refine hM _ _ ?_
  refine seq_step fun M hM => ?_
  walk_at "n"
  rw [e2]
  refine ⟨s1, ⟨by omega, by omega⟩, hM _ _ ?_⟩
  have st : rngD 0 (2 * halfI p) = (List.range ((2 + 0) * n)).map fun c => D.int (vA p (c : Nat)) := by
    rw [show (2 + 0) * n = 2 * n by omega, ← low_hal p0 n hn]
    unfold rngD
    rw [show (2 * halfI p - 0).toNat = 2 * n by omega]
  rw [st]
  refine seq_step fun M hM => ?_
  refine for_step fun R hR => ?_
  walk_at "n"
  refine hR _ _ (fun i sc h' => h' = hc ∧ ∃ o5 o6, sc = [.val (fmD p l h), .val (.int p), .val (.int l), .val (.int h), .val (.lst ((List.range ((2 + i) * n)).map fun c => D.int (vA p (c : Nat)))), o5, o6]) ⟨rfl, _, _, rfl⟩ (fun j d sc h' Nx e I nx => ?_) (fun sc h' I => ?_)
  · obtain ⟨rfl, o5, o6, rfl⟩ := I
    obtain ⟨rfl, jp⟩ := rng_at2 e
    clear e
    refine asg_step fun L hL => ?_
    walk_at "n"
    refine lc_step fun R hR => ?_
    walk_at "n"
    rw [e1, e2]
    refine ⟨s2, s1, hR _ _ (shD (1 + j)) ?_ (fun d hd Nx q => ?_) ?_⟩
    · rw [rng_len2, sizeLine_eq]; omega
    · obtain ⟨x, rfl, x0, x1⟩ := rng_mem hd
      walk_at "n"
      exact ⟨shlOk (a := 60) (b := 3000) (Nat.lt_trans (show x.natAbs < 100000 by omega) (by decide)) (by omega) (by omega) (by decide), q⟩
    have st : (rngD (halfI p) (2 * halfI p)).map (shD (1 + j)) = (List.range n).map fun k => D.int ((halfI p + (k : Nat)) * 2 ^ (1 + (j : Nat) : Int).toNat) := by
      unfold rngD
      rw [List.map_map, show (2 * halfI p - halfI p).toNat = n by omega]
      rfl
    have jn : (2 + (j + 1)) * n ≤ cntN p l h := by
      have x := Int.mul_le_mul_of_nonneg_right (show ((2 + (j + 1) : Nat) : Int) ≤ h - l + 2 by omega) (Int.le_of_lt hp)
      rw [← hn, ← Int.natCast_mul] at x
      have y : cntI p l h = (h - l + 2) * (n : Int) := by rw [hn]; rfl
      omega
    have en : (2 + (j + 1)) * n = (2 + j) * n + n := by rw [show 2 + (j + 1) = (2 + j) + 1 by omega, Nat.succ_mul]
    have join : (List.range ((2 + j) * n)).map (fun c => D.int (vA p (c : Nat))) ++ (rngD (halfI p) (2 * halfI p)).map (shD (1 + j)) = (List.range ((2 + (j + 1)) * n)).map fun c => D.int (vA p (c : Nat)) := by
      rw [st, row_hal j n hn, en, List.range_add, List.map_append, List.map_map]
    refine ⟨?_, ?_⟩
    · rw [List.length_map, List.length_range, List.length_map, rng_len2, sizeLine_eq]
      omega
    · rw [join]
      exact hL _ _ (nx _ _ ⟨rfl, _, _, rfl⟩)
  · obtain ⟨rfl, o5, o6, rfl⟩ := I
    refine hM _ _ ?_
    have en : (2 + (rngD 1 (h - l + 1)).length) * n = cntN p l h := by
      rw [rng_len2]
      have y : cntI p l h = (h - l + 2) * (n : Int) := by rw [hn]; rfl
      have z : ((2 + (h - l + 1 - 1).toNat : Nat) : Int) = h - l + 2 := by omega
      have : (((2 + (h - l + 1 - 1).toNat) * n : Nat) : Int) = cntI p l h := by rw [Int.natCast_mul, z, y]
      omega
    rw [en]
    walk_at "n"
    have top : [D.int (1 * 2 ^ (p + h - l).toNat)] = [D.int (vA p ((cntN p l h : Nat) : Int))] := by
      have u := uV_top (p := p) lh
      rw [← cn, vA_two (by omega), ← halfI_two p0] at u
      rw [Int.one_mul]
      congr 2
      have e : (2 : Int) ^ p.toNat * P2 (h - l + 1) = 2 * 2 ^ (p + h - l).toNat := by
        rw [P2_succ (by omega), Int.mul_left_comm]
        unfold P2
        rw [← Int.pow_add, show p.toNat + (h - l).toNat = (p + h - l).toNat by omega]
      omega
    rw [top]
    unfold halL at k
    rw [List.range_succ, List.map_append] at k
    exact ⟨s3, by decide, by rw [List.length_map, List.length_range, sizeLine_eq]; omega, k⟩


theorem at__law_values (T : Txt K mg) (B : BaseT K mg base) (KX : K.In base) (PS : Sup P mf)  : FnAt P w K mg base 1 "_law_values" ["_law_form_here"] sp__law_values :=
  fn_at (c := c__law_values) T.d__law_values sc__law_values (fun f cdv A outer s H E hr => by
    have nd := sc__law_values.nd
    exact (css_cons (cs_asg (ce_v 0) (cg_u rfl (cgs_cons (cg_n 1 nd) (cgs_cons (cg_n 2 nd) (cgs_cons (cg_n 3 nd) cgs_nil)))))
    (css_cons (cs_set nd (ce_lrg1 rfl T.n_list T.n_range (ce_op op_shlD (CE.bo ce_i) (CE.bo (ce_v 1)))))
    (css_cons (cs_for hr.p rfl (ci_r2 T.n_range (ca_cons ce_i (ca_cons (ce_op op_addD (CE.bo (ce_op op_subD (CE.bo (ce_v 3)) (CE.bo (ce_v 2)))) (CE.bo ce_i)) ca_nil))) (cg_n 5 nd)
    (css_one (cs_set nd (ce_op op_addD (CE.bo (ce_v 4)) (CE.bo (ce_lc rfl nd (own := [("_law_m", 6)]) (ci_r2 T.n_range (ca_cons (ce_op op_shlD (CE.bo ce_i) (CE.bo (ce_op op_subD (CE.bo (ce_v 1)) (CE.bo ce_i)))) (ca_cons (ce_op op_shlD (CE.bo ce_i) (CE.bo (ce_v 1))) ca_nil))) (blkOk_by (N := ["_law_form_here", "_law_p", "_law_low", "_law_high", "_law_found", "_law_j", "_law_m"]) (sc := defScope s__law_values) (own := [("_law_m", 6)]) (by decide +kernel)) (fun _ _ _ _ _ => (cgk_n 6 nd)) (fun _ _ _ _ _ => cts_nil) (fun _ _ _ _ _ => (ce_op op_shlD (CE.bo (ce_v 6)) (CE.bo (ce_v 5))))))))))
    (css_one (cs_ret (CE.bo (ce_op op_addD (CE.bo (ce_v 4)) (CE.bo (ce_lst (ca_cons (ce_op op_shlD (CE.bo ce_i) (CE.bo (ce_op op_subD (CE.bo (ce_op op_addD (CE.bo (ce_v 1)) (CE.bo (ce_v 3)))) (CE.bo (ce_v 2))))) ca_nil)))))))))))
    (fun ds hc Q E h => len__law_values h) (fun ds hc Q E h => pure__law_values h) (fun _ _ _ _ _ _ us hl => match us, hl with | [_], _ => rfl)

abbrev N__law_told : List Str := ["_law_way", "_law_code", "_law_ends", "_law_x", "_law_den", "_law_side", "_law_twice"]
def c__law_told : CSx :=
  (cSeq (cIfS (cOr (cAnd (cT (cOp eqD (cV 5) (cC (.int 0)))) (cT (cOp eqD (cV 3) (cOp mulD (cOp ixD (cV 2) (cC (.int 0))) (cV 4))))) (cT (cOp eqD (cV 0) (cC (.str "zero")))))
    (cRet (cV 1))
    cNext)
    (cSeq (cIfS (cT (cOp eqD (cV 0) (cC (.str "out"))))
    (cRet (cOp addD (cV 1) (cC (.int 1))))
    cNext)
    (cSeq (cIfS (cT (cOp eqD (cV 0) (cC (.str "odd"))))
    (cRet (cOp subD (cOp addD (cV 1) (cC (.int 1))) (cOp modD (cFn intFD (cCons (cV 1) cNil)) (cC (.int 2)))))
    cNext)
    (cSeq (cAsg (cOp subD (cOp mulD (cC (.int 2)) (cV 3)) (cOp mulD (cOp addD (cOp ixD (cV 2) (cC (.int 0))) (cOp ixD (cV 2) (cC (.int 1)))) (cV 4))) (gN 6))
    (cSeq (cIfS (cAnd (cT (cOp eqD (cV 6) (cC (.int 0)))) (cT (cOp eqD (cV 5) (cC (.int 0)))))
    (cRet (cOp addD (cV 1) (cFn intFD (cCons (cOrV (cOp eqD (cV 0) (cC (.str "away"))) (cOp eqD (cOp modD (cFn intFD (cCons (cV 1) cNil)) (cC (.int 2))) (cC (.int 1)))) cNil))))
    cNext)
    (cRet (cOp addD (cV 1) (cFn intFD (cCons (cOrV (cOp gtD (cV 6) (cC (.int 0))) (cAndV (cOp eqD (cV 6) (cC (.int 0))) (cOp gtD (cV 5) (cC (.int 0))))) cNil)))))))))

def sp__law_told : Spc := fun ds hc Q _ => ∃ (w : Str) (p c j m num den : Int) (up : Bool), ds = [.str w, .int c, .lst [.int (m * 2 ^ j.toNat), .int ((m + 1) * 2 ^ j.toNat)], .int num, .int den, .int (if up then 1 else 0)] ∧ IsWay w ∧ 0 ≤ j ∧ j ≤ 2400 ∧ m.natAbs < 2 ^ 128 ∧ moreI p c = j ∧ ptM p c = m ∧ m * 2 ^ j.toNat * den ≤ num ∧ 0 < den ∧ den.natAbs < 2 ^ 5000 ∧ Q (.int (toldI up w c (sideU p c (2 * num) den))) hc
theorem len__law_told {ds : List D} {hc : CH} {Q E} (h : sp__law_told ds hc Q E) : ds.length = 6 := by
  obtain ⟨w, p, c, j, m, num, den, up, rfl, _⟩ := h
  rfl
theorem pure__law_told {ds : List D} {hc : CH} {Q : D → CH → Prop} {E} (h : sp__law_told ds hc Q E) : c__law_told { nx := fun _ hc' => Q .non hc', rt := Q, xp := fun x _ hc' => E x hc' } (startC N__law_told ds) hc := by
  obtain ⟨w, p, c, j, m, num, den, up, rfl, hw, j0, j1, mb, em, ep, lo, d0, db, k⟩ := h
  unfold c__law_told N__law_told
  have t0 : (0 : Int) < 2 ^ j.toNat := Int.pow_pos (by decide)
  have G0 : 0 < 2 ^ j.toNat * den := Int.mul_pos t0 d0
  have eT : uV p c * den = 2 * (m * 2 ^ j.toNat * den) := by
    unfold uV
    rw [em, ep, P2_succ j0]
    unfold P2
    rw [Int.mul_left_comm m 2, Int.mul_assoc 2]
  have eG : P2 (moreI p c + 1) * den = 2 * (2 ^ j.toNat * den) := by
    rw [em, P2_succ j0]
    unfold P2
    rw [Int.mul_assoc 2]
  obtain ⟨s0, s2, s3⟩ := side_mid (num := num) G0 eT eG
  have s3 := s3 lo
  have sr := side_rng (p := p) (c := c) (A := 2 * num) (B := den)
  have tb : ((2 : Int) ^ j.toNat).natAbs < 2 ^ 2401 := P2_bits j 2400 j1
  have b1 : (m * 2 ^ j.toNat).natAbs < 2 ^ 2529 := mul_pow (k := 128) (l := 2401) mb tb
  have e1 : (m + 1) * 2 ^ j.toNat = m * 2 ^ j.toNat + 2 ^ j.toNat := by rw [Int.add_mul, Int.one_mul]
  have b2 : (m * 2 ^ j.toNat + (m + 1) * 2 ^ j.toNat).natAbs < 2 ^ 2532 := by
    refine up_pow 2532 (add_pow (k := 2530) (up_pow 2530 b1 (by decide)) ?_) (by decide)
    rw [e1]
    exact add_pow b1 (up_pow 2529 tb (by decide))
  have e2 : (m * 2 ^ j.toNat + (m + 1) * 2 ^ j.toNat) * den = 2 * (m * 2 ^ j.toNat * den) + 2 ^ j.toNat * den := by
    rw [e1, Int.add_mul, Int.add_mul]
    omega
  have k1 : Mn.MulOk (m * 2 ^ j.toNat) den := mulOk 2529 5000 b1 db (by decide)
  have k2 : Mn.MulOk (m * 2 ^ j.toNat + (m + 1) * 2 ^ j.toNat) den := mulOk 2532 5000 b2 db (by decide)
  revert k s0 s2 s3 sr
  generalize sideU p c (2 * num) den = s
  intro k s0 s2 s3 sr
  have hu : ((if up = true then (1 : Int) else 0) = 0 ↔ up = false) ∧ ((if up = true then (1 : Int) else 0) > 0 ↔ up = true) := by
    cases up <;> decide
  revert hu
  generalize (if up = true then (1 : Int) else 0) = u
  intro hu
  refine seq_step fun M hM => ?_
  have rest : (up = true ∨ s ≠ 0) → w ≠ "zero" → M [.val (.str w), .val (.int c), .val (.lst [.int (m * 2 ^ j.toNat), .int ((m + 1) * 2 ^ j.toNat)]), .val (.int num), .val (.int den), .val (.int u), .un] hc := fun us wz => by
    refine hM _ _ ?_
    clear hM
    refine seq_step fun M hM => ?_
    walk_at "n"
    refine ite2 (fun z => ?_) (fun z => hM _ _ ?_)
    · have z := of_decide_eq_true z
      subst z
      rw [told_o us] at k
      exact k
    have wo : w ≠ "out" := fun y => z (decide_eq_true y)
    clear z hM
    refine seq_step fun M hM => ?_
    walk_at "n"
    refine ite2 (fun z => ?_) (fun z => hM _ _ ?_)
    · have z := of_decide_eq_true z
      subst z
      rw [told_d us] at k
      exact ⟨by decide, k⟩
    have wd : w ≠ "odd" := fun y => z (decide_eq_true y)
    clear z hM
    have we : w = "even" ∨ w = "away" := by
      rcases hw with y | y | y | y | y
      · exact .inl y
      · exact .inr y
      · exact absurd y wz
      · exact absurd y wo
      · exact absurd y wd
    refine seq_step fun M hM => ?_
    walk_at "n"
    refine ⟨mulOk_l (by decide), k2, hM _ _ ?_⟩
    clear hM
    rw [e2]
    revert s2 s3
    generalize 2 * num - (2 * (m * 2 ^ j.toNat * den) + 2 ^ j.toNat * den) = X
    intro s2 s3
    refine seq_step fun M2 hM2 => ?_
    have last : (up = true ∨ X ≠ 0) → M2 [.val (.str w), .val (.int c), .val (.lst [.int (m * 2 ^ j.toNat), .int ((m + 1) * 2 ^ j.toNat)]), .val (.int num), .val (.int den), .val (.int u), .val (.int X)] hc := fun ux => by
      have us2 : up = true ∨ (s ≠ 0 ∧ s ≠ 2) := by
        rcases ux with y | y
        · exact .inl y
        · rcases us with x | x
          · exact .inl x
          · exact .inr ⟨x, fun z => y (s2.mp z)⟩
      rw [told_5 we us2 sr] at k
      refine hM2 _ _ ?_
      walk_at "n"
      by_cases z : X > 0
      · rw [decide_eq_true z]
        rw [if_pos (.inl (s3.mpr z))] at k
        exact k
      · rw [decide_eq_false z]
        walk_at "n"
        by_cases y : X = 0
        · rw [decide_eq_true y]
          have uu := ux.resolve_right fun q => q y
          have u1 := hu.2.mpr uu
          rw [if_pos (.inr ⟨s2.mpr y, uu⟩)] at k
          walk_at "n"
          rw [decide_eq_true u1]
          exact k
        · rw [decide_eq_false y]
          rw [if_neg (fun q => q.elim (fun q => z (s3.mp q)) fun q => y (s2.mp q.1))] at k
          exact k
    walk_at "n"
    refine ite2 (fun z => ?_) (fun z => (last (.inr fun q => z (decide_eq_true q))))
    have z := of_decide_eq_true z
    refine ite2 (fun y => ?_) (fun y => last (.inl ?_))
    · have y := hu.1.mp (of_decide_eq_true y)
      subst y
      rw [told_4 we (s2.mpr z)] at k
      by_cases x : w = "away"
      · rw [decide_eq_true (show w = Str.ofString "away" from x)]
        rw [if_pos (.inl x)] at k
        exact k
      · rw [decide_eq_false (show ¬ w = Str.ofString "away" from x)]
        refine ⟨by decide, ?_⟩
        by_cases q : c % 2 = 1
        · rw [if_pos (decide_eq_true q)]
          rw [if_pos (.inr q)] at k
          exact k
        · rw [if_neg (fun g => q (of_decide_eq_true g))]
          rw [if_neg (fun g => g.elim x q)] at k
          exact k
    · cases up
      · exact absurd (decide_eq_true (hu.1.mpr rfl)) y
      · rfl
  walk_at "n"
  refine ite2 (fun z => ?_) (fun z => ?_)
  · have z := hu.1.mp (of_decide_eq_true z)
    subst z
    refine ⟨k1, ite2 (fun y => ?_) (fun y => ?_)⟩
    · rw [told_1 (s0.mpr (of_decide_eq_true y))] at k
      exact k
    · refine ite2 (fun x => ?_) (fun x => rest (.inr fun q => y (decide_eq_true (s0.mp q))) fun q => x (decide_eq_true q))
      have x := of_decide_eq_true x
      subst x
      rw [told_z] at k
      exact k
  · have z : up = true := by
      cases up
      · exact absurd (decide_eq_true (hu.1.mpr rfl)) z
      · rfl
    refine ite2 (fun x => ?_) (fun x => rest (.inl z) fun q => x (decide_eq_true q))
    have x := of_decide_eq_true x
    subst x
    rw [told_z] at k
    exact k


theorem at__law_told (T : Txt K mg) (B : BaseT K mg base) (KX : K.In base) (PS : Sup P mf)  : FnAt P w K mg base 1 "_law_told" ["_law_way", "_law_code", "_law_ends", "_law_x", "_law_den", "_law_side"] sp__law_told :=
  fn_at (c := c__law_told) T.d__law_told sc__law_told (fun f cdv A outer s H E hr => by
    have nd := sc__law_told.nd
    exact (css_cons (cs_if (CW.t (cw_or (CW.t (cw_and (ct_cmp (op_eqDD hr.g.units) (CE.bo (ce_v 5)) (CE.bo ce_i)) (cw_and1 (ct_cmp (op_eqDD hr.g.units) (CE.bo (ce_v 3)) (CE.bo (ce_op op_mulD (CE.bo (ce_ix (CE.bo (ce_v 2)) ce_i)) (CE.bo (ce_v 4)))))))) (cw_or1 (ct_cmp (op_eqDD hr.g.units) (CE.bo (ce_v 0)) (CE.bo ce_s)))))
    (css_one (cs_ret (CE.bo (ce_v 1))))
    css_nil)
    (css_cons (cs_if (ct_cmp (op_eqDD hr.g.units) (CE.bo (ce_v 0)) (CE.bo ce_s))
    (css_one (cs_ret (CE.bo (ce_op op_addD (CE.bo (ce_v 1)) (CE.bo ce_i)))))
    css_nil)
    (css_cons (cs_if (ct_cmp (op_eqDD hr.g.units) (CE.bo (ce_v 0)) (CE.bo ce_s))
    (css_one (cs_ret (CE.bo (ce_op op_subD (CE.bo (ce_op op_addD (CE.bo (ce_v 1)) (CE.bo ce_i))) (CE.bo (ce_op op_modD (CE.bo (ce_bt bt_int T.n_int (cba_cons (CE.bo (ce_v 1)) cba_nil))) (CE.bo ce_i)))))))
    css_nil)
    (css_cons (cs_set nd (ce_op op_subD (CE.bo (ce_op op_mulD (CE.bo ce_i) (CE.bo (ce_v 3)))) (CE.bo (ce_op op_mulD (CE.bo (ce_op op_addD (CE.bo (ce_ix (CE.bo (ce_v 2)) ce_i)) (CE.bo (ce_ix (CE.bo (ce_v 2)) ce_i)))) (CE.bo (ce_v 4))))))
    (css_cons (cs_if (CW.t (cw_and (ct_cmp (op_eqDD hr.g.units) (CE.bo (ce_v 6)) (CE.bo ce_i)) (cw_and1 (ct_cmp (op_eqDD hr.g.units) (CE.bo (ce_v 5)) (CE.bo ce_i)))))
    (css_one (cs_ret (CE.bo (ce_op op_addD (CE.bo (ce_v 1)) (CE.bo (ce_bt bt_int T.n_int (cba_cons (CE.bo (ce_or (ce_cmp (op_eqDD hr.g.units) (CE.bo (ce_v 0)) (CE.bo ce_s)) (ce_one (ce_cmp (op_eqDD hr.g.units) (CE.bo (ce_op op_modD (CE.bo (ce_bt bt_int T.n_int (cba_cons (CE.bo (ce_v 1)) cba_nil))) (CE.bo ce_i))) (CE.bo ce_i))))) cba_nil)))))))
    css_nil)
    (css_one (cs_ret (CE.bo (ce_op op_addD (CE.bo (ce_v 1)) (CE.bo (ce_bt bt_int T.n_int (cba_cons (CE.bo (ce_or (ce_cmp op_gtD (CE.bo (ce_v 6)) (CE.bo ce_i)) (ce_one (ce_and (ce_cmp (op_eqDD hr.g.units) (CE.bo (ce_v 6)) (CE.bo ce_i)) (ce_one (ce_cmp op_gtD (CE.bo (ce_v 5)) (CE.bo ce_i))))))) cba_nil)))))))))))))
    (fun ds hc Q E h => len__law_told h) (fun ds hc Q E h => pure__law_told h) (fun _ _ _ _ _ _ us hl => match us, hl with | [_, _, _, _, _, _], _ => rfl)

abbrev N__law_codes : List Str := ["_law_form_here", "_law_way", "_law_slope_here", "_law_last", "_law_side", "_law_values_here", "_law_found", "_law_code", "_law_num", "_law_den", "_law_x", "_law_at"]
def c__law_codes : CSx :=
  (cSeq (cAsg (cCall sp__law_values (cCons (cV 0) cNil)) (gN 5))
    (cSeq (cParN 6 3 (cCons (cC (.int 0)) (cCons (cOp ixD (cV 2) (cC (.int 0))) (cCons (cOp ixD (cV 2) (cC (.int 1))) cNil))) (gCons' (gN 7) (gCons' (gN 8) (gCons' (gN 9) gNil'))))
    (cSeq (cFor (cR3P (cCons (cV 8) (cCons (cOp addD (cOp mulD (cV 8) (cV 3)) (cC (.int 1))) (cCons (cV 8) cNil)))) (gN 10)
    (cSeq (cWhile (cAnd (cT (cOp ltD (cV 7) (cOp subD (cFn lenD (cCons (cV 5) cNil)) (cC (.int 2))))) (cT (cOp leD (cOp mulD (cOp ixD (cV 5) (cOp addD (cV 7) (cC (.int 1)))) (cV 9)) (cV 10))))
    (cAsg (cOp addD (cV 7) (cC (.int 1))) (gN 7)))
    (cSeq (cAsg (cOp subD (cV 7) (cFn intFD (cCons (cAndV (cOp ltD (cV 4) (cC (.int 0))) (cOp eqD (cV 10) (cOp mulD (cOp ixD (cV 5) (cV 7)) (cV 9)))) cNil))) (gN 11))
    (cApp 6 (cCall sp__law_told (cCons (cV 1) (cCons (cV 11) (cCons (cSl (cV 5) (cSoP (cV 11)) (cSoP (cOp addD (cV 11) (cC (.int 2))))) (cCons (cV 10) (cCons (cV 9) (cCons (cV 4) cNil)))))))))))
    (cRet (cO 6)))))

def sp__law_codes : Spc := fun ds hc Q _ => ∃ (w : Str) (p l h num den : Int) (n : Nat) (up : Bool), ds = [fmD p l h, .str w, .lst [.int num, .int den], .int n, .int (if up then 1 else 0)] ∧ Sm p l h ∧ IsWay w ∧ 0 < num ∧ 0 < den ∧ num.natAbs < 2 ^ 4000 ∧ den.natAbs < 2 ^ 4000 ∧ n ≤ 50000 ∧ ∀ cs : List Int, cs.length = n → (∀ (k : Nat) v, cs[k]? = some v → ∀ c, FlAt p l h (2 * (num * (k + 1))) den c → v = toldI up w c (sideU p c (2 * (num * (k + 1))) den)) → Q (.lst (cs.map D.int)) hc
theorem len__law_codes {ds : List D} {hc : CH} {Q E} (h : sp__law_codes ds hc Q E) : ds.length = 5 := by
  obtain ⟨w, p, l, h, num, den, n, up, rfl, _⟩ := h
  rfl
theorem pure__law_codes {ds : List D} {hc : CH} {Q : D → CH → Prop} {E} (h : sp__law_codes ds hc Q E) : c__law_codes { nx := fun _ hc' => Q .non hc', rt := Q, xp := fun x _ hc' => E x hc' } (startC N__law_codes ds) hc := by
  obtain ⟨w, p, l, h, num, den, n, up, rfl, s, hw, n0, d0, nb, db, hn, k⟩ := h
  have f := s.f
  have p1 := s.p1
  have l0 := f.l0
  have lh := f.lh
  have h1 := s.h1
  obtain ⟨cb, cn, c2⟩ := cnt_sm s
  obtain ⟨vl, vl2⟩ := hal_len s
  unfold c__law_codes N__law_codes
  have hu : (if up = true then (1 : Int) else 0) ≥ 0 := by
    cases up <;> decide
  refine seq_step fun M hM => ?_
  walk_at "n"
  refine ⟨p, l, h, rfl, s, hM _ _ ?_⟩
  refine seq_step fun M hM => ?_
  walk_at "n"
  refine ⟨by decide, hM _ _ ?_⟩
  refine seq_step fun M hM => ?_
  refine for_step fun R hR => ?_
  walk_at "n"
  have sz : (Builtin.Range.rangeSize num (num * n + 1) num).toNat = n := by
    unfold Builtin.Range.rangeSize
    rw [if_pos n0, show num * (n : Int) + 1 - num - 1 = num * ((n : Int) - 1) by rw [Int.mul_sub, Int.mul_one]; omega, Int.mul_ediv_cancel_left _ (by omega)]
    by_cases z : n = 0
    · subst z
      rw [if_neg (by simp; omega)]
      rfl
    · rw [if_pos ?_]
      · omega
      · have := Int.mul_le_mul_of_nonneg_left (show (1 : Int) ≤ n by omega) (Int.le_of_lt n0)
        omega
  rw [sz]
  refine ⟨mulOk_r (by omega), divOk 4000 n0 nb (by decide), ?_⟩
  refine hR _ _ (fun i sc h' => h' = hc ∧ ∃ (cs : List Int) (c : Int) (o10 : Sl) (o11 : Sl), cs.length = i ∧ 0 ≤ c ∧ c < cntI p l h ∧ uV p c * den ≤ 2 * (num * i) ∧ (∀ (k : Nat) v, cs[k]? = some v → ∀ c, FlAt p l h (2 * (num * (k + 1))) den c → v = toldI up w c (sideU p c (2 * (num * (k + 1))) den)) ∧ sc = [.val (fmD p l h), .val (.str w), .val (.lst [.int num, .int den]), .val (.int n), .val (.int (if up = true then 1 else 0)), .val (.lst (halL p l h)), .own (cs.map D.int), .val (.int c), .val (.int num), .val (.int den), o10, o11]) ⟨rfl, [], 0, _, _, rfl, Int.le_refl _, by omega, ?_, (fun k v e => by simp at e), rfl⟩ (fun j d sc h' Nx e I nx => ?_) (fun sc h' I => ?_)
  · unfold uV
    rw [pt_zero.1, Int.zero_mul, Int.zero_mul]
    simp
  · obtain ⟨rfl, cs, c, o10, o11, cl, c0, c1, cv, ce, rfl⟩ := I
    obtain ⟨rfl, jn⟩ := rngS_at e
    clear e
    have ex : num + (j : Int) * num = num * (j + 1) := by rw [Int.mul_add, Int.mul_one, Int.mul_comm num j]; omega
    rw [ex]
    have x0 : 0 < num * ((j : Int) + 1) := Int.mul_pos n0 (by omega)
    have xb : (num * ((j : Int) + 1)).natAbs < 2 ^ 4020 := mul_pow (k := 4000) (l := 20) nb (Nat.lt_of_le_of_lt (show ((j : Int) + 1).natAbs ≤ 60000 by omega) (by decide))
    have cv2 : uV p c * den ≤ 2 * (num * ((j : Int) + 1)) := by
      have := Int.mul_le_mul_of_nonneg_left (show (j : Int) ≤ (j : Int) + 1 by omega) (Int.le_of_lt n0)
      omega
    clear cv ex
    generalize hx : num * ((j : Int) + 1) = x at *
    walk_at "n"
    refine seq_step fun M2 hM2 => ?_
    refine wh_inv (fun m sc hc1 => hc1 = h' ∧ ∃ (c : Int), (m : Int) + c = cntI p l h ∧ 0 ≤ c ∧ c < cntI p l h ∧ uV p c * den ≤ 2 * x ∧ sc = [.val (fmD p l h), .val (.str w), .val (.lst [.int num, .int den]), .val (.int n), .val (.int (if up = true then 1 else 0)), .val (.lst (halL p l h)), .own (cs.map D.int), .val (.int c), .val (.int num), .val (.int den), .val (.int x), o11]) (fun m sc hc1 Nx2 I nx2 => ?_) (m := (cntI p l h - c).toNat) ⟨rfl, c, by omega, c0, c1, cv2, rfl⟩
    obtain ⟨rfl, c, hm, c0, c1, cv, rfl⟩ := I
    have done : (c + 1 < cntI p l h → 2 * x < uV p (c + 1) * den) → M2 [.val (fmD p l h), .val (.str w), .val (.lst [.int num, .int den]), .val (.int n), .val (.int (if up = true then 1 else 0)), .val (.lst (halL p l h)), .own (cs.map D.int), .val (.int c), .val (.int num), .val (.int den), .val (.int x), o11] hc1 := fun hi => by
      have fl : FlAt p l h (2 * x) den c := ⟨c0, c1, cv, hi⟩
      refine hM2 _ _ ?_
      obtain ⟨m0, m1, m2⟩ := half_rng (p := p) c0
      have mb := ptM_bits f.p0 f.p1 c0
      have mt := more_top f.lh c0 c1
      refine seq_step fun M3 hM3 => ?_
      walk_at "n"
      rw [decide_eq_false (show ¬ (if up = true then (1 : Int) else 0) < 0 by omega)]
      refine hM3 _ _ ?_
      rw [Int.sub_zero]
      walk_at "n"
      rw [hal_cut s c0 c1]
      refine ⟨by rw [List.length_map, sizeLine_eq]; omega, w, p, c, moreI p c, ptM p c, x, den, up, rfl, hw, m0, by omega, mb, rfl, rfl, ?_, d0, up_pow 5000 db (by decide), ?_⟩
      · have := vA_two (p := p) c0
        unfold vA at this
        unfold P2 at this
        rw [this, Int.mul_assoc] at cv
        omega
      · refine nx _ _ ⟨rfl, cs ++ [toldI up w c (sideU p c (2 * x) den)], c, _, _, by rw [List.length_append, cl]; rfl, c0, c1, ?_, fun k v e c' y => ?_, by rw [List.map_append]; rfl⟩
        · rw [show ((j + 1 : Nat) : Int) = (j : Int) + 1 by omega, hx]
          exact cv
        · by_cases kj : k < j
          · rw [List.getElem?_append_left (by omega)] at e
            exact ce k v e c' y
          · rw [List.getElem?_append_right (by omega), cl] at e
            by_cases kz : k = j
            · subst kz
              rw [Nat.sub_self] at e
              cases e
              rw [hx] at y ⊢
              rw [y.uniq d0 fl]
            · rw [show k - j = (k - j - 1) + 1 by omega] at e
              simp at e
    have vb : (vA p (c + 1)).natAbs < 2 ^ 220 := by
      have a := uV_s s (show 0 ≤ c + 1 by omega) (by omega)
      rw [vA_two (by omega)] at a
      omega
    have vt : uV p (c + 1) * den = 2 * (vA p (c + 1) * den) := by rw [vA_two (by omega), Int.mul_assoc]
    walk_at "n"
    refine ite2 (fun z => ?_) (fun z => done fun y => absurd (decide_eq_true (by omega)) z)
    have z := of_decide_eq_true z
    refine oth_some (hal_at s (by omega) (by omega)) ?_
    refine ⟨mulOk 220 4000 vb db (by decide), ite2 (fun y => ?_) (fun y => done fun _ => ?_)⟩
    · have y := of_decide_eq_true y
      exact nx2 (m - 1) _ _ (by omega) ⟨rfl, c + 1, by omega, by omega, by omega, by omega, rfl⟩
    · have y : ¬ vA p (c + 1) * den ≤ x := fun q => y (decide_eq_true q)
      omega
  · obtain ⟨rfl, cs, c, o10, o11, cl, c0, c1, cv, ce, rfl⟩ := I
    rw [rngS_len] at cl
    refine hM _ _ ?_
    walk_at "n"
    exact k cs cl ce


theorem at__law_codes (T : Txt K mg) (B : BaseT K mg base) (KX : K.In base) (PS : Sup P mf) (A__law_values : FnAt P w K mg base 1 "_law_values" ["_law_form_here"] sp__law_values) (A__law_told : FnAt P w K mg base 1 "_law_told" ["_law_way", "_law_code", "_law_ends", "_law_x", "_law_den", "_law_side"] sp__law_told) : FnAt P w K mg base 2 "_law_codes" ["_law_form_here", "_law_way", "_law_slope_here", "_law_last", "_law_side"] sp__law_codes :=
  fn_at (c := c__law_codes) T.d__law_codes sc__law_codes (fun f cdv A outer s H E hr => by
    have nd := sc__law_codes.nd
    exact (css_cons (cs_set nd (ce_f A__law_values hr (ca_cons (ce_v 0) ca_nil)))
    (css_cons (cs_parN rfl nd (ca_cons ce_i (ca_cons (ce_ix (CE.bo (ce_v 2)) ce_i) (ca_cons (ce_ix (CE.bo (ce_v 2)) ce_i) ca_nil))) (cgs_cons (cg_n 7 nd) (cgs_cons (cg_n 8 nd) (cgs_cons (cg_n 9 nd) cgs_nil))))
    (css_cons (cs_for hr.p rfl (ci_r3p T.n_range (ca_cons (ce_v 8) (ca_cons (ce_op op_addD (CE.bo (ce_op op_mulD (CE.bo (ce_v 8)) (CE.bo (ce_v 3)))) (CE.bo ce_i)) (ca_cons (ce_v 8) ca_nil)))) (cg_n 10 nd)
    (css_cons (cs_while hr.p (CW.t (cw_and (ct_cmp op_ltD (CE.bo (ce_v 7)) (CE.bo (ce_op op_subD (CE.bo (ce_bf bf_len T.n_len (cba_cons (CE.bo (ce_v 5)) cba_nil))) (CE.bo ce_i)))) (cw_and1 (ct_cmp op_leD (CE.bo (ce_op op_mulD (CE.bo (ce_ix (CE.bo (ce_v 5)) (ce_op op_addD (CE.bo (ce_v 7)) (CE.bo ce_i)))) (CE.bo (ce_v 9)))) (CE.bo (ce_v 10))))))
    (css_one (cs_set nd (ce_op op_addD (CE.bo (ce_v 7)) (CE.bo ce_i)))))
    (css_cons (cs_set nd (ce_op op_subD (CE.bo (ce_v 7)) (CE.bo (ce_bt bt_int T.n_int (cba_cons (CE.bo (ce_and (ce_cmp op_ltD (CE.bo (ce_v 4)) (CE.bo ce_i)) (ce_one (ce_cmp (op_eqDD hr.g.units) (CE.bo (ce_v 10)) (CE.bo (ce_op op_mulD (CE.bo (ce_ix (CE.bo (ce_v 5)) (ce_v 7))) (CE.bo (ce_v 9)))))))) cba_nil)))))
    (css_one (cs_app 6 (ce_f A__law_told hr (ca_cons (ce_v 1) (ca_cons (ce_v 11) (ca_cons (ce_sl (CE.bo (ce_v 5)) (co_some (ce_v 11)) (co_some (ce_op op_addD (CE.bo (ce_v 11)) (CE.bo ce_i)))) (ca_cons (ce_v 10) (ca_cons (ce_v 9) (ca_cons (ce_v 4) ca_nil))))))))))))
    (css_one (cs_ret (cb_o 6)))))))
    (fun ds hc Q E h => len__law_codes h) (fun ds hc Q E h => pure__law_codes h) (fun _ _ _ _ _ _ us hl => match us, hl with | [_, _, _, _, _], _ => rfl)

abbrev N__law_whole : List Str := ["_law_thing"]
def c__law_whole : CSx :=
  (cRet (cAndV (cUn (isiD "int") (cV 0)) (cNotV (cUn (isiD "bool") (cV 0)))))

def sp__law_whole : Spc := fun ds hc Q _ => ∃ d, ds = [d] ∧ NoRef d ∧ Q (.bl (isW d)) hc
theorem len__law_whole {ds : List D} {hc : CH} {Q E} (h : sp__law_whole ds hc Q E) : ds.length = 1 := by
  obtain ⟨d, rfl, _⟩ := h
  rfl
theorem pure__law_whole {ds : List D} {hc : CH} {Q : D → CH → Prop} {E} (h : sp__law_whole ds hc Q E) : c__law_whole { nx := fun _ hc' => Q .non hc', rt := Q, xp := fun x _ hc' => E x hc' } (startC N__law_whole ds) hc := by
  obtain ⟨d, rfl, hn, k⟩ := h
  unfold c__law_whole N__law_whole
  cases d <;> first | exact hn.elim | (walk_at "n"; exact k)


theorem at__law_whole (T : Txt K mg) (B : BaseT K mg base) (KX : K.In base) (PS : Sup P mf)  : FnAt P w K mg base 1 "_law_whole" ["_law_thing"] sp__law_whole :=
  fn_at (c := c__law_whole) T.d__law_whole sc__law_whole (fun f cdv A outer s H E hr => by
    have nd := sc__law_whole.nd
    exact (css_one (cs_ret (CE.bo (ce_and (ce_isi (n := "int") (by decide) T.n_isinstance T.n_int (CE.bo (ce_v 0))) (ce_one (ce_not (ce_isi (n := "bool") (by decide) T.n_isinstance T.n_bool (CE.bo (ce_v 0))))))))))
    (fun ds hc Q E h => len__law_whole h) (fun ds hc Q E h => pure__law_whole h) (fun _ _ _ _ _ _ us hl => match us, hl with | [_], _ => rfl)

abbrev N__law_right : List Str := ["_law_form_here", "_law_way", "_law_row_here", "_law_found", "_law_ends", "_law_lower", "_law_upper", "_law_true", "_law_k", "_law_number", "_law_slope_here"]
def c__law_right : CSx :=
  (cSeq (cAsg (cLc (cR1 (cCons (cC (.int 71)) cNil)) (gN 9) cYes (cCall sp__law_told_run (cCons (cV 0) (cCons (cV 1) (cCons (cV 2) (cCons (cV 9) cNil))))) [9]) (gN 3))
    (cSeq (cIfS (cNot (cT (cCall sp__law_sound (cCons (cV 2) cNil))))
    (cRet (cOp eqD (cV 3) (cOp mulD (cLst (cCons (cLst (cCons (cOp ixD (cV 2) (cC (.int 0))) cNil)) cNil)) (cC (.int 71)))))
    cNext)
    (cSeq (cAsg (cLst (cCons (cCall sp__law_slope (cCons (cV 0) (cCons (cC (.int 0)) (cCons (cOp ixD (cV 2) (cC (.int 1))) (cCons (cOp ixD (cV 2) (cC (.int 2))) cNil))))) (cCons (cCall sp__law_slope (cCons (cV 0) (cCons (cC (.int 0)) (cCons (cOp addD (cOp ixD (cV 2) (cC (.int 1))) (cOp ixD (cV 2) (cC (.int 3)))) (cCons (cOp ixD (cV 2) (cC (.int 2))) cNil))))) cNil))) (gN 4))
    (cSeq (cAsg (cLc (cIt (cV 4)) (gN 10) cYes (cCall sp__law_codes (cCons (cV 0) (cCons (cV 1) (cCons (cV 10) (cCons (cC (.int 70)) (cCons (cC (.int 0)) cNil)))))) [10]) (gUn 2 (gCons' (gN 5) (gCons' (gN 6) gNil'))))
    (cSeq (cAsg (cCall sp__law_codes (cCons (cV 0) (cCons (cV 1) (cCons (cCall sp__law_slope (cCons (cV 0) (cCons (cOp ixD (cV 2) (cC (.int 0))) (cCons (cC (.int 1)) (cCons (cC (.int 0)) cNil))))) (cCons (cC (.int 70)) (cCons (cC (.int 0)) cNil)))))) (gN 7))
    (cSeq (cIfS (cOr (cT (cOp neD (cOp ixD (cV 3) (cC (.int 0))) (cC (.int 0)))) (cNot (cT (cCall sp__law_whole (cCons (cOp ixD (cV 3) (cC (.int 0))) cNil)))))
    (cRet (cC (.bl false)))
    cNext)
    (cSeq (cFor (cR1 (cCons (cC (.int 70)) cNil)) (gN 8)
    (cSeq (cIfS (cAnd (cT (cOp neD (cOp ixD (cV 5) (cV 8)) (cOp ixD (cV 6) (cV 8)))) (cT (cOp notND (cOp ixD (cV 3) (cOp addD (cV 8) (cC (.int 1)))) (cC .non))))
    (cRet (cC (.bl false)))
    cNext)
    (cIfS (cAnd (cT (cOp eqD (cOp ixD (cV 5) (cV 8)) (cOp ixD (cV 6) (cV 8)))) (cOr (cT (cOp neD (cOp ixD (cV 3) (cOp addD (cV 8) (cC (.int 1)))) (cOp ixD (cV 7) (cV 8)))) (cNot (cT (cCall sp__law_whole (cCons (cOp ixD (cV 3) (cOp addD (cV 8) (cC (.int 1)))) cNil))))))
    (cRet (cC (.bl false)))
    cNext)))
    (cRet (cC (.bl true))))))))))

/-! ### what a list of codes tells -/
theorem told_all {up : Bool} {w : Str} {p l h : Int} {A B a d : Int → Int} (f : Fm p l h) (hx : ∀ x, 0 < x → 0 ≤ A x ∧ 0 < B x ∧ 0 < d x ∧ A x * d x = 2 * a x * B x) : ∃ R : Int → Int, ∀ x, 0 < x → (∃ c, FlAt p l h (A x) (B x) c) ∧ (∀ c, FlAt p l h (A x) (B x) c → toldI up w c (sideU p c (A x) (B x)) = R x) ∧ (∀ c, FlAt p l h (2 * a x) (d x) c → toldI up w c (sideU p c (2 * a x) (d x)) = R x) := by
  have key : ∀ x : Int, ∃ r, 0 < x → (∃ c, FlAt p l h (A x) (B x) c) ∧ (∀ c, FlAt p l h (A x) (B x) c → toldI up w c (sideU p c (A x) (B x)) = r) ∧ (∀ c, FlAt p l h (2 * a x) (d x) c → toldI up w c (sideU p c (2 * a x) (d x)) = r) := fun x => by
    by_cases x0 : 0 < x
    · obtain ⟨h1, h2, h3, h4⟩ := hx x x0
      obtain ⟨c, t, fl, es, un, un2, es2⟩ := both_units f h1 h2 h3 h4
      refine ⟨toldI up w c t, fun _ => ⟨⟨c, fl⟩, fun c' y => ?_, fun c' y => ?_⟩⟩
      · cases un c' y
        rw [es]
      · cases un2 c' y
        rw [es2]
    · exact ⟨0, fun y => absurd y x0⟩
  exact ⟨fun x => Classical.choose (key x), fun x => Classical.choose_spec (key x)⟩
theorem run_told {up : Bool} {w : Str} {p l h F s : Int} (f : Fm p l h) (F0 : 0 < F) : ∃ R : Int → Int, ∀ x, 0 < x → (∃ c, FlAt p l h (unA (F * P2 s * x) l) (unB (P2 (-s)) l) c) ∧ (∀ c, FlAt p l h (unA (F * P2 s * x) l) (unB (P2 (-s)) l) c → toldI up w c (sideU p c (unA (F * P2 s * x) l) (unB (P2 (-s)) l)) = R x) ∧ (∀ c, FlAt p l h (2 * (x * (F * P2 (s - l)))) (P2 (l - s)) c → toldI up w c (sideU p c (2 * (x * (F * P2 (s - l)))) (P2 (l - s))) = R x) :=
  told_all (A := fun x => unA (F * P2 s * x) l) (B := fun _ => unB (P2 (-s)) l) (a := fun x => x * (F * P2 (s - l))) (d := fun _ => P2 (l - s)) f fun x x0 => ⟨Int.mul_nonneg (Int.le_of_lt (Int.mul_pos (Int.mul_pos F0 (P2_pos s)) x0)) (Int.le_of_lt (P2_pos _)), Int.mul_pos (P2_pos _) (P2_pos _), P2_pos _, run_units F s x l⟩
theorem dec_told {w : Str} {p l h q : Int} (f : Fm p l h) : ∃ R : Int → Int, ∀ x, 0 < x → (∃ c, FlAt p l h (unA (x * P10 q) l) (unB (P10 (-q)) l) c) ∧ (∀ c, FlAt p l h (unA (x * P10 q) l) (unB (P10 (-q)) l) c → toldI false w c (sideU p c (unA (x * P10 q) l) (unB (P10 (-q)) l)) = R x) ∧ (∀ c, FlAt p l h (2 * (x * (P10 q * P2 (-l)))) (P10 (-q) * P2 l) c → toldI false w c (sideU p c (2 * (x * (P10 q * P2 (-l)))) (P10 (-q) * P2 l)) = R x) :=
  told_all (A := fun x => unA (x * P10 q) l) (B := fun _ => unB (P10 (-q)) l) (a := fun x => x * (P10 q * P2 (-l))) (d := fun _ => P10 (-q) * P2 l) f fun x x0 => ⟨Int.mul_nonneg (Int.le_of_lt (Int.mul_pos x0 (P10_pos q))) (Int.le_of_lt (P2_pos _)), Int.mul_pos (P10_pos _) (P2_pos _), Int.mul_pos (P10_pos _) (P2_pos _), dec_units x q l⟩
theorem codes_eq {up : Bool} {w : Str} {p l h a d : Int} {n : Nat} {g : Int → Int} {cs : List Int} (f : Fm p l h) (a0 : 0 < a) (cl : cs.length = n) (ce : ∀ (k : Nat) v, cs[k]? = some v → ∀ c, FlAt p l h (2 * (a * (k + 1))) d c → v = toldI up w c (sideU p c (2 * (a * (k + 1))) d)) (hg : ∀ x, 0 < x → ∀ c, FlAt p l h (2 * (x * a)) d c → toldI up w c (sideU p c (2 * (x * a)) d) = g x) : cs = (List.range n).map fun j : Nat => g ((j : Int) + 1) := by
  refine List.ext_getElem? fun j => ?_
  rw [List.getElem?_map]
  by_cases z : j < n
  · rw [List.getElem?_range z]
    obtain ⟨c, fl⟩ := fl_exists (p := p) (l := l) (h := h) (A := 2 * (((j : Int) + 1) * a)) (B := d) f (by have := Int.mul_pos (show 0 < (j : Int) + 1 by omega) a0; omega)
    have x := ce j _ (List.getElem?_eq_getElem (by omega)) c
    rw [Int.mul_comm a] at x
    rw [List.getElem?_eq_getElem (by omega), x fl, hg _ (by omega) c fl]
    rfl
  · rw [List.getElem?_eq_none (by omega), List.getElem?_eq_none (by rw [List.length_range]; omega)]
    rfl


/-! ### decimals compared -/
abbrev crossI (d q q' : Int) : Int := d * P10 q * P10 (-q')
def cmpI (d q d' q' : Int) : Int := (if crossI d' q' q < crossI d q q' then 1 else 0) - (if crossI d q q' < crossI d' q' q then 1 else 0)
theorem cross_units {d q d' q' l : Int} : unA (d * P10 q) l * unB (P10 (-q')) l = crossI d q q' * (P2 (1 - l) * P2 (l - 1)) := by
  unfold unA unB crossI
  simp only [Int.mul_assoc, Int.mul_left_comm, Int.mul_comm]
theorem units_pos {l : Int} : 0 < P2 (1 - l) * P2 (l - 1) := Int.mul_pos (P2_pos _) (P2_pos _)
theorem cross_le {d q d' q' l : Int} : crossI d q q' ≤ crossI d' q' q ↔ unA (d * P10 q) l * unB (P10 (-q')) l ≤ unA (d' * P10 q') l * unB (P10 (-q)) l := by
  rw [cross_units (d' := d'), cross_units (d' := d)]
  exact ⟨fun h => Int.mul_le_mul_of_nonneg_right h (Int.le_of_lt units_pos), fun h => Int.le_of_mul_le_mul_right h units_pos⟩
theorem unB_pos {q l : Int} : 0 < unB (P10 (-q)) l := Int.mul_pos (P10_pos _) (P2_pos _)
theorem sideU_rng {p c A B : Int} : 0 ≤ sideU p c A B ∧ sideU p c A B ≤ 3 := by
  unfold sideU
  split
  · omega
  split
  · omega
  split <;> omega
/-- reading keeps the order -/
theorem read_mono {w : Str} {p l h A B A' B' c c' : Int} (hw : IsWay w) (B0 : 0 < B) (B1 : 0 < B') (x : FlAt p l h A B c) (y : FlAt p l h A' B' c') (le : A * B' ≤ A' * B) : readI w c (sideU p c A B) ≤ readI w c' (sideU p c' A' B') := by
  have cc : c ≤ c' := by
    refine Decidable.byContradiction fun z => ?_
    have u := y.up (by have := x.c1; omega)
    have m := Int.mul_le_mul_of_nonneg_right (uV_le (p := p) (show 0 ≤ c' + 1 by have := y.c0; omega) (show c' + 1 ≤ c by omega)) (Int.le_of_lt B1)
    have a := Int.mul_lt_mul_of_pos_right (Int.lt_of_lt_of_le u m) B0
    have b := Int.mul_le_mul_of_nonneg_right x.lo (Int.le_of_lt B1)
    rw [Int.mul_right_comm] at a
    omega
  have rg : ∀ c s : Int, c ≤ readI w c s ∧ readI w c s ≤ c + 1 := fun c s => by
    by_cases z : s = 0
    · rw [z, readI_0]
      omega
    rcases hw with rfl | rfl | rfl | rfl | rfl
    · rw [readI_e z]; split <;> omega
    · rw [readI_a z]; split <;> omega
    · rw [readI_z z]; omega
    · rw [readI_u z]; omega
    · rw [readI_o z]; omega
  by_cases e : c = c'
  · subst e
    have ss : sideU p c A B ≤ sideU p c A' B' := by
      have g0 := P2_pos (moreI p c + 1)
      have h1 : (A - uV p c * B) * B' ≤ (A' - uV p c * B') * B := by
        rw [Int.sub_mul, Int.sub_mul, Int.mul_right_comm (uV p c)]
        omega
      have e1 : P2 (moreI p c + 1) * B * B' = P2 (moreI p c + 1) * B' * B := Int.mul_right_comm ..
      have lo1 := x.lo
      have lo2 := y.lo
      unfold sideU
      generalize hU : uV p c * B = U at *
      generalize hU' : uV p c * B' = U' at *
      generalize hV : P2 (moreI p c + 1) * B = V at *
      generalize hV' : P2 (moreI p c + 1) * B' = V' at *
      have t1 : A' = U' → A = U := fun z => by
        rw [show A' - U' = 0 by omega, Int.zero_mul] at h1
        refine Decidable.byContradiction fun g => ?_
        have := Int.mul_pos (show 0 < A - U by omega) B1
        omega
      have t2 : 2 * (A' - U') < V' → 2 * (A - U) < V := fun z => by
        have a := Int.mul_lt_mul_of_pos_right z B0
        rw [← e1, Int.mul_assoc] at a
        refine Int.lt_of_mul_lt_mul_right (a := B') ?_ (Int.le_of_lt B1)
        rw [Int.mul_assoc]
        omega
      have t3 : 2 * (A' - U') ≤ V' → 2 * (A - U) ≤ V := fun z => by
        have a := Int.mul_le_mul_of_nonneg_right z (Int.le_of_lt B0)
        rw [← e1, Int.mul_assoc] at a
        refine Int.le_of_mul_le_mul_right (a := B') ?_ B1
        rw [Int.mul_assoc]
        omega
      by_cases z : A' = U'
      · rw [if_pos (t1 z), if_pos z]
        exact Int.le_refl _
      rw [if_neg z]
      by_cases z1 : 2 * (A' - U') < V'
      · rw [if_pos z1, if_pos (t2 z1)]
        split <;> omega
      rw [if_neg z1]
      by_cases z2 : 2 * (A' - U') = V'
      · rw [if_pos z2]
        have := t3 (by omega)
        split
        · omega
        split
        · omega
        split <;> omega
      rw [if_neg z2]
      split
      · omega
      split
      · omega
      split <;> omega
    have r1 := sideU_rng (p := p) (c := c) (A := A) (B := B)
    have r2 := sideU_rng (p := p) (c := c) (A := A') (B := B')
    generalize sideU p c A B = s at *
    generalize sideU p c A' B' = s' at *
    by_cases z : s = 0
    · rw [z, readI_0]
      exact (rg c s').1
    have z' : s' ≠ 0 := by omega
    rcases hw with rfl | rfl | rfl | rfl | rfl
    · rw [readI_e z, readI_e z']
      split <;> split <;> omega
    · rw [readI_a z, readI_a z']
      split <;> split <;> omega
    · rw [readI_z z, readI_z z']
      omega
    · rw [readI_u z, readI_u z']
      omega
    · rw [readI_o z, readI_o z']
      omega
  · have a := (rg c (sideU p c A B)).2
    have b := (rg c' (sideU p c' A' B')).1
    omega
/-- ten times the digits, one power less -/
theorem cross_ten {d q : Int} : crossI (10 * d) (q - 1) q = crossI d q (q - 1) := by
  unfold crossI P10
  by_cases h : 1 ≤ q
  · rw [show (-q).toNat = 0 by omega, show (-(q - 1)).toNat = 0 by omega, show q.toNat = (q - 1).toNat + 1 by omega, Int.pow_succ, Int.mul_comm _ (10 : Int), Int.mul_assoc 10 d, Int.mul_left_comm d, Int.mul_assoc 10]
  · rw [show (q - 1).toNat = 0 by omega, show q.toNat = 0 by omega, show (-(q - 1)).toNat = (-q).toNat + 1 by omega, Int.pow_succ, Int.mul_comm _ (10 : Int), Int.pow_zero, Int.mul_one, Int.mul_one, Int.mul_left_comm, Int.mul_assoc]
/-- where a decimal lies against the middle above a code, or against the code -/
theorem cmp_mid {p l h c d q w z : Int} (f : Fm p l h) (c0 : 0 ≤ c) (c1 : c < cntI p l h) (hw : w = whM (2 * ptM p c + 1) (ptE p l c - 1)) (hz : z = whE (ptE p l c - 1)) (s0 : sideU p c (unA (d * P10 q) l) (unB (P10 (-q)) l) ≠ 0) : cmpI d q w z = sideU p c (unA (d * P10 q) l) (unB (P10 (-q)) l) - 2 := by
  have e1 := more_top f.lh c0 c1
  have e0 := (half_rng (p := p) c0).1
  have u := wh_units (m := 2 * ptM p c + 1) (show l - 1 ≤ ptE p l c - 1 by unfold ptE; omega)
  have tw := P2_succ e0
  rw [← hw, ← hz, show ptE p l c - 1 - l + 1 = moreI p c by unfold ptE; omega] at u
  have u : unA (w * P10 z) l = uV p c * unB (P10 (-z)) l + P2 (moreI p c) * unB (P10 (-z)) l := by
    rw [u]
    unfold uV
    rw [tw, ← Int.add_mul]
    congr 1
    rw [Int.add_mul, Int.one_mul, Int.mul_left_comm, Int.mul_assoc]
  have k0 := units_pos (l := l)
  have B1 := unB_pos (q := z) (l := l)
  have x1 := cross_units (d := d) (q := q) (d' := w) (q' := z) (l := l)
  have x2 := cross_units (d := w) (q := z) (d' := d) (q' := q) (l := l)
  rw [u] at x2
  have tg : P2 (moreI p c + 1) * unB (P10 (-q)) l = 2 * (P2 (moreI p c) * unB (P10 (-q)) l) := by rw [tw, Int.mul_assoc]
  have x2 : (uV p c * unB (P10 (-q)) l + P2 (moreI p c) * unB (P10 (-q)) l) * unB (P10 (-z)) l = crossI w z q * (P2 (1 - l) * P2 (l - 1)) := by
    rw [← x2, Int.add_mul, Int.add_mul, Int.mul_right_comm, Int.mul_right_comm (P2 (moreI p c))]
  unfold sideU at s0 ⊢
  unfold cmpI
  rw [tg] at s0 ⊢
  generalize crossI d q z = X at *
  generalize crossI w z q = Y at *
  generalize P2 (1 - l) * P2 (l - 1) = K at *
  generalize unB (P10 (-z)) l = B' at *
  generalize unA (d * P10 q) l = A at *
  generalize uV p c * unB (P10 (-q)) l = U at *
  generalize P2 (moreI p c) * unB (P10 (-q)) l = V at *
  have lt : X < Y ↔ A < U + V := by
    constructor
    · intro g
      have := Int.mul_lt_mul_of_pos_right g k0
      rw [← x1, ← x2] at this
      exact Int.lt_of_mul_lt_mul_right this (Int.le_of_lt B1)
    · intro g
      have := Int.mul_lt_mul_of_pos_right g B1
      rw [x1, x2] at this
      exact Int.lt_of_mul_lt_mul_right this (Int.le_of_lt k0)
  have gt : Y < X ↔ U + V < A := by
    constructor
    · intro g
      have := Int.mul_lt_mul_of_pos_right g k0
      rw [← x1, ← x2] at this
      exact Int.lt_of_mul_lt_mul_right this (Int.le_of_lt B1)
    · intro g
      have := Int.mul_lt_mul_of_pos_right g B1
      rw [x1, x2] at this
      exact Int.lt_of_mul_lt_mul_right this (Int.le_of_lt k0)
  have nA : ¬ A = U := fun y => s0 (if_pos y)
  simp only [lt, gt, if_neg nA]
  by_cases a : U + V < A
  · rw [if_pos a, if_neg (show ¬ A < U + V by omega), if_neg (show ¬ 2 * (A - U) < 2 * V by omega), if_neg (show ¬ 2 * (A - U) = 2 * V by omega)]
    rfl
  · rw [if_neg a]
    by_cases b : A < U + V
    · rw [if_pos b, if_pos (show 2 * (A - U) < 2 * V by omega)]
      rfl
    · rw [if_neg b, if_neg (show ¬ 2 * (A - U) < 2 * V by omega), if_pos (show 2 * (A - U) = 2 * V by omega)]
      rfl
theorem cmp_own {p l h c d q w z : Int} (f : Fm p l h) (c0 : 0 ≤ c) (c1 : c < cntI p l h) (hw : w = whM (ptM p c) (ptE p l c)) (hz : z = whE (ptE p l c)) (ex : unA (d * P10 q) l = uV p c * unB (P10 (-q)) l) : cmpI d q w z = 0 := by
  have e1 := more_top f.lh c0 c1
  have e0 := (half_rng (p := p) c0).1
  have u := wh_units (m := ptM p c) (show l - 1 ≤ ptE p l c by unfold ptE; omega)
  rw [← hw, ← hz, show ptE p l c - l + 1 = moreI p c + 1 by unfold ptE; omega, show ptM p c * P2 (moreI p c + 1) = uV p c from rfl] at u
  have x1 := cross_units (d := d) (q := q) (d' := w) (q' := z) (l := l)
  have x2 := cross_units (d := w) (q := z) (d' := d) (q' := q) (l := l)
  rw [ex] at x1
  rw [u, Int.mul_right_comm] at x2
  have e := Int.eq_of_mul_eq_mul_right (Int.ne_of_gt units_pos) (x1.symm.trans x2)
  unfold cmpI
  rw [e, if_neg (Int.lt_irrefl _)]
  rfl


def sp__law_right : Spc := fun ds hc Q _ => ∃ w p l h pw f s k, ds = [fmD p l h, .str w, .tup [.int pw, .int f, .int s, .int k]] ∧ Sm p l h ∧ IsWay w ∧ RwOk pw f s k ∧ pw.natAbs ≤ 400 ∧ s.natAbs ≤ 2000 ∧ Q (.bl true) hc
theorem len__law_right {ds : List D} {hc : CH} {Q E} (h : sp__law_right ds hc Q E) : ds.length = 3 := by
  obtain ⟨w, p, l, h, pw, f, s, k, rfl, _⟩ := h
  rfl
def onD (g : Int → D) : D → D
  | .int x => g x
  | d => d
theorem onD_at {g : Int → D} {n j : Nat} (h : j < n) : ((rngD 0 n).map (onD g))[j]? = some (g j) := by
  unfold rngD
  rw [List.map_map, List.getElem?_map, List.getElem?_range (by omega)]
  show some (g (0 + (j : Int))) = _
  rw [Int.zero_add]
theorem mid_read {w : Str} {p l h q f s k x : Int} (hw : IsWay w) (so : soundB q f s k = true) (x0 : 0 < x) {c c2 c3 : Int} (h1 : FlAt p l h (unA (f * P2 s * x) l) (unB (P2 (-s)) l) c) (h2 : FlAt p l h (unA ((f + k) * P2 s * x) l) (unB (P2 (-s)) l) c2) (h3 : FlAt p l h (unA (x * P10 q) l) (unB (P10 (-q)) l) c3) : readI w c (sideU p c (unA (f * P2 s * x) l) (unB (P2 (-s)) l)) ≤ readI w c3 (sideU p c3 (unA (x * P10 q) l) (unB (P10 (-q)) l)) ∧ readI w c3 (sideU p c3 (unA (x * P10 q) l) (unB (P10 (-q)) l)) ≤ readI w c2 (sideU p c2 (unA ((f + k) * P2 s * x) l) (unB (P2 (-s)) l)) := by
  unfold soundB at so
  rw [Bool.and_eq_true] at so
  have s1 := of_decide_eq_true so.1
  have s2 := of_decide_eq_true so.2
  have B0 : 0 < unB (P2 (-s)) l := Int.mul_pos (P2_pos _) (P2_pos _)
  have B1 : 0 < unB (P10 (-q)) l := Int.mul_pos (P10_pos _) (P2_pos _)
  have z : 0 ≤ x * (P2 (1 - l) * P2 (l - 1)) := Int.mul_nonneg (Int.le_of_lt x0) (Int.mul_nonneg (Int.le_of_lt (P2_pos _)) (Int.le_of_lt (P2_pos _)))
  have m1 := Int.mul_le_mul_of_nonneg_right s1 z
  have m2 := Int.mul_le_mul_of_nonneg_right s2 z
  refine ⟨read_mono hw B0 B1 h1 h3 ?_, read_mono hw B1 B0 h3 h2 ?_⟩
  · refine Int.le_trans (Int.le_of_eq ?_) (Int.le_trans m1 (Int.le_of_eq ?_))
    · unfold unA unB
      simp only [Int.mul_assoc, Int.mul_comm, Int.mul_left_comm]
    · unfold unA unB
      simp only [Int.mul_assoc, Int.mul_comm, Int.mul_left_comm]
  · refine Int.le_trans (Int.le_of_eq ?_) (Int.le_trans m2 (Int.le_of_eq ?_))
    · unfold unA unB
      simp only [Int.mul_assoc, Int.mul_comm, Int.mul_left_comm]
    · unfold unA unB
      simp only [Int.mul_assoc, Int.mul_comm, Int.mul_left_comm]
theorem pure__law_right {ds : List D} {hc : CH} {Q : D → CH → Prop} {E} (h : sp__law_right ds hc Q E) : c__law_right { nx := fun _ hc' => Q .non hc', rt := Q, xp := fun x _ hc' => E x hc' } (startC N__law_right ds) hc := by
  obtain ⟨w, p, l, h, pw, f, s, k, rfl, sm, hw, rw', hpw, hs, kk⟩ := h
  have fm := sm.f
  have l0 := fm.l0
  have lh := fm.lh
  have h1 := fm.h1
  have fb := rw'.fb
  have fhb := rw'.fhb
  have t0 : 0 < f + k := by have := rw'.f0; have := rw'.h0; omega
  have z10 : P10 0 = 1 := P10_nn (by decide)
  have z10m : P10 (-0) = 1 := P10_nn (by decide)
  have nb : ∀ F : Int, F.natAbs < 2 ^ 290 → (F * P2 (s - l)).natAbs < 2 ^ 4000 := fun F hF => up_pow 4000 (mul_pow (k := 290) (l := 3201) hF (P2_bits (s - l) 3200 (by omega))) (by decide)
  have db : (P2 (l - s)).natAbs < 2 ^ 4000 := up_pow 4000 (P2_bits (l - s) 3200 (by omega)) (by decide)
  have tb : (P10 pw * P2 (-l)).natAbs < 2 ^ 4000 := up_pow 4000 (mul_pow (k := 1601) (l := 1201) (P10_bits pw 400 (by omega)) (P2_bits (-l) 1200 (by omega))) (by decide)
  have ub : (P10 (-pw) * P2 l).natAbs < 2 ^ 4000 := up_pow 4000 (mul_pow (k := 1601) (l := 1201) (P10_bits (-pw) 400 (by omega)) (P2_bits l 1200 (by omega))) (by decide)
  have a1 : 0 < f * P2 (s - l) := Int.mul_pos rw'.f0 (P2_pos _)
  have a2 : 0 < (f + k) * P2 (s - l) := Int.mul_pos t0 (P2_pos _)
  have a3 : 0 < P10 pw * P2 (-l) := Int.mul_pos (P10_pos _) (P2_pos _)
  have a4 : 0 < P10 (-pw) * P2 l := Int.mul_pos (P10_pos _) (P2_pos _)
  obtain ⟨R1, r1⟩ := run_told (up := false) (w := w) (s := s) fm rw'.f0
  obtain ⟨R2, r2⟩ := run_told (up := false) (w := w) (s := s) fm t0
  obtain ⟨R3, r3⟩ := dec_told (w := w) (q := pw) fm
  unfold c__law_right N__law_right
  refine seq_step fun M hM => ?_
  refine asg_step fun L hL => ?_
  refine lc_step fun R hR => ?_
  walk_at "n"
  have c71 : (rngD 0 71).length ≤ sizeLine := by rw [rng_len, sizeLine_eq]; decide
  by_cases so : soundB pw f s k = true
  · refine hR _ _ (onD fun x => if x = 0 then .int 0 else if R2 x = R1 x then .int (R1 x) else .non) c71 (fun d hd Nx q => ?_) ?_
    · obtain ⟨x, rfl, x0, x1⟩ := rng_mem hd
      walk_at "n"
      refine ⟨w, p, l, h, pw, f, s, k, x, rfl, fm, hw, rw', x0, Nat.lt_trans (show x.natAbs < 100 by omega) (by decide), fun y => ?_, fun _ y => ?_, fun _ y c c2 y1 y2 => ?_⟩
      · rw [so] at y
        cases y
      · subst y
        exact q
      · rw [show readI w c2 (sideU p c2 (unA ((f + k) * P2 s * x) l) (unB (P2 (-s)) l)) = R2 x from (r2 x y).2.1 c2 y2, show readI w c (sideU p c (unA (f * P2 s * x) l) (unB (P2 (-s)) l)) = R1 x from (r1 x y).2.1 c y1]
        have q : Nx (if x = 0 then .int 0 else if R2 x = R1 x then .int (R1 x) else .non) hc := q
        rw [if_neg (show ¬ x = 0 by omega)] at q
        exact q
    refine hL _ _ (hM _ _ ?_)
    refine seq_step fun M hM => ?_
    walk_at "n"
    refine ⟨pw, f, s, k, rfl, hpw, fb, fhb, by have := rw'.sb; omega, ?_⟩
    rw [so]
    walk_at "n"
    refine hM _ _ ?_
    refine seq_step fun M hM => ?_
    walk_at "n"
    refine ⟨p, l, h, 0, f, s, rfl, fm, by decide, up_pow 300 fb (by decide), by omega, ?_⟩
    rw [z10, z10m, Int.mul_one, Int.one_mul]
    refine ⟨p, l, h, 0, f + k, s, rfl, fm, by decide, up_pow 300 fhb (by decide), by omega, ?_⟩
    rw [z10, z10m, Int.mul_one, Int.one_mul]
    refine ⟨by decide, hM _ _ ?_⟩
    obtain ⟨gv, hgv⟩ : ∃ gv : Int → D, gv = fun x => if x = 0 then .int 0 else if R2 x = R1 x then .int (R1 x) else .non := ⟨_, rfl⟩
    rw [← hgv]
    have xat : ∀ j : Nat, j < 71 → ((rngD 0 71).map (onD gv))[j]? = some (gv j) := fun j hj => onD_at hj
    have g0 : gv 0 = .int 0 := by rw [hgv]; exact if_pos rfl
    have gp : ∀ x, 0 < x → gv x = if R2 x = R1 x then .int (R1 x) else .non := fun x x0 => by rw [hgv]; exact if_neg (by omega)
    clear hgv
    generalize (rngD 0 71).map (onD gv) = xs at *
    refine seq_step fun M hM => ?_
    walk_at "n"
    refine lc_inv fun R hR => ?_
    walk_at "n"
    refine hR _ _ (fun i acc h' => h' = hc ∧ acc = ([D.lst ((List.range 70).map fun j : Nat => D.int (R1 ((j : Int) + 1))), D.lst ((List.range 70).map fun j : Nat => D.int (R2 ((j : Int) + 1)))] : List D).take i) (show 2 ≤ sizeLine by decide) ⟨rfl, rfl⟩ (fun i y acc h' Nx e' I nx => ?_) (fun acc h' I => ?_)
    · obtain ⟨rfl, rfl⟩ := I
      match i, e' with
      | 0, e' =>
        cases e'
        walk_at "n"
        refine ⟨w, p, l, h, _, _, 70, false, rfl, sm, hw, a1, P2_pos _, nb f fb, db, by decide, fun cs cl ce => ?_⟩
        rw [codes_eq fm a1 cl ce (fun x x0 c fl => (r1 x x0).2.2 c fl), List.map_map]
        exact nx _ _ ⟨rfl, rfl⟩
      | 1, e' =>
        cases e'
        walk_at "n"
        refine ⟨w, p, l, h, _, _, 70, false, rfl, sm, hw, a2, P2_pos _, nb (f + k) fhb, db, by decide, fun cs cl ce => ?_⟩
        rw [codes_eq fm a2 cl ce (fun x x0 c fl => (r2 x x0).2.2 c fl), List.map_map]
        exact nx _ _ ⟨rfl, rfl⟩
      | i + 2, e' => cases e'
    · obtain ⟨rfl, rfl⟩ := I
      rw [show List.take ([D.lst [D.int (f * P2 (s - l)), D.int (P2 (l - s))], D.lst [D.int ((f + k) * P2 (s - l)), D.int (P2 (l - s))]] : List D).length [D.lst ((List.range 70).map fun j : Nat => D.int (R1 ((j : Int) + 1))), D.lst ((List.range 70).map fun j : Nat => D.int (R2 ((j : Int) + 1)))] = [D.lst ((List.range 70).map fun j : Nat => D.int (R1 ((j : Int) + 1))), D.lst ((List.range 70).map fun j : Nat => D.int (R2 ((j : Int) + 1)))] from rfl]
      walk_at "n"
      refine hM _ _ ?_
      refine seq_step fun M hM => ?_
      walk_at "n"
      refine ⟨p, l, h, pw, 1, 0, rfl, fm, hpw, Nat.one_lt_two_pow (by decide), by decide, ?_⟩
      rw [Int.one_mul, show 0 - l = -l by omega, show l - 0 = l by omega]
      refine ⟨w, p, l, h, _, _, 70, false, rfl, sm, hw, a3, a4, tb, ub, by decide, fun cs cl ce => ?_⟩
      rw [codes_eq fm a3 cl ce (fun x x0 c fl => (r3 x x0).2.2 c fl), List.map_map]
      refine hM _ _ ?_
      have at_ : ∀ (R : Int → Int) (j : Nat), j < 70 → atI ((List.range 70).map fun j : Nat => D.int (R ((j : Int) + 1))) j = some (.int (R ((j : Int) + 1))) := fun R j hj => atI_nat' (j := j) rfl (by rw [List.getElem?_map, List.getElem?_range hj]; rfl)
      have at1 := at_ R1
      have at2 := at_ R2
      have at3 := at_ R3
      clear at_
      rw [show (D.int ∘ fun j : Nat => R3 ((j : Int) + 1)) = fun j : Nat => D.int (R3 ((j : Int) + 1)) from rfl]
      generalize (List.range 70).map (fun j : Nat => D.int (R1 ((j : Int) + 1))) = L1 at *
      generalize (List.range 70).map (fun j : Nat => D.int (R2 ((j : Int) + 1))) = L2 at *
      generalize (List.range 70).map (fun j : Nat => D.int (R3 ((j : Int) + 1))) = L3 at *
      refine seq_step fun M hM => ?_
      walk_at "n"
      have x0 : atI xs 0 = some (.int 0) := atI_nat' (j := 0) rfl (by rw [xat 0 (by decide)]; exact congrArg some g0)
      refine oth_some x0 ?_
      walk_at "n"
      refine oth_some x0 ?_
      refine ⟨_, rfl, trivial, ?_⟩
      refine hM _ _ ?_
      refine seq_step fun M hM => ?_
      refine for_step fun R hR => ?_
      walk_at "n"
      refine hR _ _ (fun i sc h2 => h2 = h' ∧ ∃ (o8 : Sl), sc = [.val (fmD p l h), .val (.str w), .val (.tup [.int pw, .int f, .int s, .int k]), .val (.lst xs), .val (.lst [.lst [.int (f * P2 (s - l)), .int (P2 (l - s))], .lst [.int ((f + k) * P2 (s - l)), .int (P2 (l - s))]]), .val (.lst L1), .val (.lst L2), .val (.lst L3), o8, .un, .un]) ⟨rfl, _, rfl⟩ (fun j d sc h2 Nx e I nx => ?_) (fun sc h2 I => ?_)
      · obtain ⟨rfl, o8, rfl⟩ := I
        obtain ⟨rfl, jp⟩ := rng_at e
        clear e
        have b1 := at1 j (by omega)
        have b2 := at2 j (by omega)
        have b3 := at3 j (by omega)
        have bx : atI xs ((j : Int) + 1) = some (gv ((j : Int) + 1)) := atI_nat' (j := j + 1) (by omega) (by rw [xat (j + 1) (by omega)]; congr 2)
        have gj := gp ((j : Int) + 1) (by omega)
        obtain ⟨⟨c1, f1⟩, q1, _⟩ := r1 ((j : Int) + 1) (by omega)
        obtain ⟨⟨c2, f2⟩, q2, _⟩ := r2 ((j : Int) + 1) (by omega)
        obtain ⟨⟨c3, f3⟩, q3, _⟩ := r3 ((j : Int) + 1) (by omega)
        have mid := mid_read hw so (show 0 < (j : Int) + 1 by omega) f1 f2 f3
        rw [show readI w c1 (sideU p c1 (unA (f * P2 s * ((j : Int) + 1)) l) (unB (P2 (-s)) l)) = _ from q1 c1 f1, show readI w c2 (sideU p c2 (unA ((f + k) * P2 s * ((j : Int) + 1)) l) (unB (P2 (-s)) l)) = _ from q2 c2 f2, show readI w c3 (sideU p c3 (unA (((j : Int) + 1) * P10 pw) l) (unB (P10 (-pw)) l)) = _ from q3 c3 f3] at mid
        clear q1 q2 q3 f1 f2 f3 at1 at2 at3 r1 r2 r3
        rw [gj] at bx
        generalize R1 ((j : Int) + 1) = y1 at *
        generalize R2 ((j : Int) + 1) = y2 at *
        generalize R3 ((j : Int) + 1) = y3 at *
        walk_at "n"
        refine seq_step fun M2 hM2 => ?_
        walk_at "n"
        refine oth_some b1 (oth_some b2 ?_)
        walk_at "n"
        by_cases z : y1 = y2
        · subst z
          obtain rfl : y3 = y1 := by omega
          rw [if_pos rfl] at bx
          walk_at "n"
          refine hM2 _ _ ?_
          walk_at "n"
          refine oth_some b1 (oth_some b2 ?_)
          walk_at "n"
          refine oth_some bx (oth_some b3 ?_)
          walk_at "n"
          refine oth_some bx ?_
          refine ⟨_, rfl, trivial, ?_⟩
          exact nx _ _ ⟨rfl, _, rfl⟩
        · rw [if_neg (show ¬ y2 = y1 from fun y => z y.symm)] at bx
          rw [decide_eq_false z]
          walk_at "n"
          refine oth_some bx ?_
          walk_at "n"
          refine hM2 _ _ ?_
          walk_at "n"
          refine oth_some b1 (oth_some b2 ?_)
          walk_at "n"
          rw [decide_eq_false z]
          exact nx _ _ ⟨rfl, _, rfl⟩
      · obtain ⟨rfl, o8, rfl⟩ := I
        refine hM _ _ ?_
        walk_at "n"
        exact kk
  · have so := Bool.eq_false_iff.mpr so
    refine hR _ _ (onD fun x => .lst [.int pw]) c71 (fun d hd Nx q => ?_) ?_
    · obtain ⟨x, rfl, x0, x1⟩ := rng_mem hd
      walk_at "n"
      refine ⟨w, p, l, h, pw, f, s, k, x, rfl, fm, hw, rw', x0, Nat.lt_trans (show x.natAbs < 100 by omega) (by decide), fun _ => q, fun y => ?_, fun y => ?_⟩
      · rw [so] at y
        cases y
      · rw [so] at y
        cases y
    refine hL _ _ (hM _ _ ?_)
    refine seq_step fun M hM => ?_
    walk_at "n"
    refine ⟨pw, f, s, k, rfl, hpw, fb, fhb, by have := rw'.sb; omega, ?_⟩
    rw [so]
    walk_at "n"
    refine ⟨by decide, by decide, ⟨by decide, by decide, by decide⟩, ?_⟩
    have e : (rngD 0 71).map (onD fun _ => .lst [.int pw]) = (List.replicate (Int.toNat 71) [D.lst [D.int pw]]).flatten := rfl
    rw [← e]
    exact eqD_same 3 rfl kk


theorem at__law_right (T : Txt K mg) (B : BaseT K mg base) (KX : K.In base) (PS : Sup P mf) (A__law_told_run : FnAt P w K mg base 7 "_law_told_run" ["_law_form_here", "_law_way", "_law_row_here", "_law_number"] sp__law_told_run) (A__law_sound : FnAt P w K mg base 2 "_law_sound" ["_law_row_here"] sp__law_sound) (A__law_slope : FnAt P w K mg base 2 "_law_slope" ["_law_form_here", "_law_power_here", "_law_factor", "_law_shift"] sp__law_slope) (A__law_codes : FnAt P w K mg base 2 "_law_codes" ["_law_form_here", "_law_way", "_law_slope_here", "_law_last", "_law_side"] sp__law_codes) (A__law_whole : FnAt P w K mg base 1 "_law_whole" ["_law_thing"] sp__law_whole) : FnAt P w K mg base 8 "_law_right" ["_law_form_here", "_law_way", "_law_row_here"] sp__law_right :=
  fn_at (c := c__law_right) T.d__law_right sc__law_right (fun f cdv A outer s H E hr => by
    have nd := sc__law_right.nd
    exact (css_cons (cs_lc rfl nd (own := [("_law_number", 9)]) (ci_r1 T.n_range (ca_cons ce_i ca_nil)) (blkOk_by (N := ["_law_form_here", "_law_way", "_law_row_here", "_law_found", "_law_ends", "_law_lower", "_law_upper", "_law_true", "_law_k", "_law_number", "_law_slope_here"]) (sc := defScope s__law_right) (own := [("_law_number", 9)]) (by decide +kernel)) (fun _ _ _ _ _ => (cgk_n 9 nd)) (fun _ _ _ _ _ => cts_nil) (fun _ _ _ _ _ => (ce_f A__law_told_run hr.b (ca_cons (ce_v 0) (ca_cons (ce_v 1) (ca_cons (ce_v 2) (ca_cons (ce_v 9) ca_nil)))))))
    (css_cons (cs_if (ct_not (ct_e (ce_f A__law_sound hr (ca_cons (ce_v 2) ca_nil))))
    (css_one (cs_ret (CE.bo (ce_cmp (op_eqDD hr.g.units) (CE.bo (ce_v 3)) (CE.bo (ce_op op_mulD (CE.bo (ce_lst (ca_cons (ce_lst (ca_cons (ce_ix (CE.bo (ce_v 2)) ce_i) ca_nil)) ca_nil))) (CE.bo ce_i)))))))
    css_nil)
    (css_cons (cs_set nd (ce_lst (ca_cons (ce_f A__law_slope hr (ca_cons (ce_v 0) (ca_cons ce_i (ca_cons (ce_ix (CE.bo (ce_v 2)) ce_i) (ca_cons (ce_ix (CE.bo (ce_v 2)) ce_i) ca_nil))))) (ca_cons (ce_f A__law_slope hr (ca_cons (ce_v 0) (ca_cons ce_i (ca_cons (ce_op op_addD (CE.bo (ce_ix (CE.bo (ce_v 2)) ce_i)) (CE.bo (ce_ix (CE.bo (ce_v 2)) ce_i))) (ca_cons (ce_ix (CE.bo (ce_v 2)) ce_i) ca_nil))))) ca_nil))))
    (css_cons (cs_asg (ce_lc rfl nd (own := [("_law_slope_here", 10)]) (ci_e (ce_v 4)) (blkOk_by (N := ["_law_form_here", "_law_way", "_law_row_here", "_law_found", "_law_ends", "_law_lower", "_law_upper", "_law_true", "_law_k", "_law_number", "_law_slope_here"]) (sc := defScope s__law_right) (own := [("_law_slope_here", 10)]) (by decide +kernel)) (fun _ _ _ _ _ => (cgk_n 10 nd)) (fun _ _ _ _ _ => cts_nil) (fun _ _ _ _ _ => (ce_f A__law_codes hr.b (ca_cons (ce_v 0) (ca_cons (ce_v 1) (ca_cons (ce_v 10) (ca_cons ce_i (ca_cons ce_i ca_nil)))))))) (cg_u rfl (cgs_cons (cg_n 5 nd) (cgs_cons (cg_n 6 nd) cgs_nil))))
    (css_cons (cs_set nd (ce_f A__law_codes hr (ca_cons (ce_v 0) (ca_cons (ce_v 1) (ca_cons (ce_f A__law_slope hr (ca_cons (ce_v 0) (ca_cons (ce_ix (CE.bo (ce_v 2)) ce_i) (ca_cons ce_i (ca_cons ce_i ca_nil))))) (ca_cons ce_i (ca_cons ce_i ca_nil)))))))
    (css_cons (cs_if (CW.t (cw_or (ct_cmp (op_neDD hr.g.units) (CE.bo (ce_ix (CE.bo (ce_v 3)) ce_i)) (CE.bo ce_i)) (cw_or1 (ct_not (ct_e (ce_f A__law_whole hr (ca_cons (ce_ix (CE.bo (ce_v 3)) ce_i) ca_nil)))))))
    (css_one (cs_ret (CE.bo ce_b)))
    css_nil)
    (css_cons (cs_for hr.p rfl (ci_r1 T.n_range (ca_cons ce_i ca_nil)) (cg_n 8 nd)
    (css_cons (cs_if (CW.t (cw_and (ct_cmp (op_neDD hr.g.units) (CE.bo (ce_ix (CE.bo (ce_v 5)) (ce_v 8))) (CE.bo (ce_ix (CE.bo (ce_v 6)) (ce_v 8)))) (cw_and1 (ct_cmp op_notND (CE.bo (ce_ix (CE.bo (ce_v 3)) (ce_op op_addD (CE.bo (ce_v 8)) (CE.bo ce_i)))) (CE.bo ce_n)))))
    (css_one (cs_ret (CE.bo ce_b)))
    css_nil)
    (css_one (cs_if (CW.t (cw_and (ct_cmp (op_eqDD hr.g.units) (CE.bo (ce_ix (CE.bo (ce_v 5)) (ce_v 8))) (CE.bo (ce_ix (CE.bo (ce_v 6)) (ce_v 8)))) (cw_and1 (CW.t (cw_or (ct_cmp (op_neDD hr.g.units) (CE.bo (ce_ix (CE.bo (ce_v 3)) (ce_op op_addD (CE.bo (ce_v 8)) (CE.bo ce_i)))) (CE.bo (ce_ix (CE.bo (ce_v 7)) (ce_v 8)))) (cw_or1 (ct_not (ct_e (ce_f A__law_whole hr (ca_cons (ce_ix (CE.bo (ce_v 3)) (ce_op op_addD (CE.bo (ce_v 8)) (CE.bo ce_i))) ca_nil))))))))))
    (css_one (cs_ret (CE.bo ce_b)))
    css_nil))))
    (css_one (cs_ret (CE.bo ce_b)))))))))))
    (fun ds hc Q E h => len__law_right h) (fun ds hc Q E h => pure__law_right h) (fun _ _ _ _ _ _ us hl => match us, hl with | [_, _, _], _ => rfl)

abbrev N_law : List Str := ["_law_script", "_law_deck_here", "_law_turn", "_law_form_here", "_law_row_here", "_law_way"]
def c_law : CSx :=
  (cSeq (cAsg (cCall sp__law_deck (cCons (cV 0) cNil)) (gN 1))
    (cSeq (cFor (cR1 (cCons (cC (.int 6)) cNil)) (gN 2)
    (cSeq (cAsg (cCall sp__law_form (cCons (cV 1) cNil)) (gN 3))
    (cSeq (cAsg (cCall sp__law_row (cCons (cV 1) (cCons (cCall sp__law_power (cCons (cV 1) (cCons (cV 3) cNil))) (cCons (cOp addD (cC (.int 1)) (cCall sp__law_draw (cCons (cV 1) (cCons (cC (.int 9)) cNil)))) cNil)))) (gN 4))
    (cSeq (cIfS (cT (cOp neD (cCall sp_is_sound (cCons (cV 4) cNil)) (cCall sp__law_sound (cCons (cV 4) cNil))))
    (cRet (cC (.bl false)))
    cNext)
    (cFor (cIt (cCall sp__law_ways cNil)) (gN 5)
    (cIfS (cNot (cT (cCall sp__law_right (cCons (cV 3) (cCons (cV 5) (cCons (cV 4) cNil))))))
    (cRet (cC (.bl false)))
    cNext))))))
    (cRet (cC (.bl true)))))

def sp_law : Spc := spLaw
theorem len_law {ds : List D} {hc : CH} {Q E} (h : sp_law ds hc Q E) : ds.length = 1 := by
  obtain ⟨ns, rfl, _⟩ := h
  rfl
theorem way_mem2 {x : D} (hx : x ∈ [D.str "even", .str "away", .str "zero", .str "out", .str "odd"]) : ∃ w : Str, x = .str w ∧ IsWay w := by
  simp only [List.mem_cons, List.not_mem_nil, or_false] at hx
  rcases hx with rfl | rfl | rfl | rfl | rfl
  · exact ⟨_, rfl, .inl rfl⟩
  · exact ⟨_, rfl, .inr (.inl rfl)⟩
  · exact ⟨_, rfl, .inr (.inr (.inl rfl))⟩
  · exact ⟨_, rfl, .inr (.inr (.inr (.inl rfl)))⟩
  · exact ⟨_, rfl, .inr (.inr (.inr (.inr rfl)))⟩
theorem pure_law {ds : List D} {hc : CH} {Q : D → CH → Prop} {E} (h : sp_law ds hc Q E) : c_law { nx := fun _ hc' => Q .non hc', rt := Q, xp := fun x _ hc' => E x hc' } (startC N_law ds) hc := by
  obtain ⟨ns, rfl, hl, k⟩ := h
  unfold c_law N_law
  refine seq_step fun M hM => ?_
  walk_at "n"
  refine ⟨ns, rfl, hl, fun r q hc1 dk => hM _ _ ?_⟩
  refine seq_step fun M hM => ?_
  refine for_step fun R hR => ?_
  walk_at "n"
  refine hR _ _ (fun i sc h => (∃ o2 o3 o4 o5, sc = [.val (.frz (ns.map D.int)), .val (.ref r), o2, o3, o4, o5]) ∧ Dk hc r q (100 * i) h) ⟨⟨_, _, _, _, rfl⟩, dk⟩ (fun j d sc h Nx e I nx => ?_) (fun sc h I => ?_)
  · obtain ⟨⟨o2, o3, o4, o5, rfl⟩, dk⟩ := I
    obtain ⟨rfl, jp⟩ := rng_at e
    clear e
    walk_at "n"
    refine seq_step fun M hM => ?_
    walk_at "n"
    refine ⟨hc, r, q, _, rfl, dk, by omega, fun p l h' hc2 sm p5 l8 h12 dk => hM _ _ ?_⟩
    refine seq_step fun M hM => ?_
    walk_at "n"
    refine ⟨hc, r, q, _, p, l, h', rfl, dk, by omega, sm.f, fun x hc3 xb dk => ?_⟩
    walk_at "n"
    refine ⟨hc, r, q, _, _, rfl, dk, by omega, by decide, by decide, fun y hc4 y0 y1 dk => ?_⟩
    walk_at "n"
    refine ⟨hc, r, q, _, _, _, rfl, dk, by omega, xb, by omega, by omega, fun f' s' k' hc5 rw' sb dk => hM _ _ ?_⟩
    refine seq_step fun M hM => ?_
    walk_at "n"
    refine ⟨x, f', s', k', rfl, by omega, up_pow 100000 rw'.fb (Nat.le_of_ble_eq_true rfl), up_pow 100000 rw'.fhb (Nat.le_of_ble_eq_true rfl), by omega, ?_⟩
    refine ⟨x, f', s', k', rfl, xb, rw'.fb, rw'.fhb, by omega, ?_⟩
    walk_at "n"
    refine neB_same 1 rfl ?_
    walk_at "n"
    refine hM _ _ ?_
    refine for_step fun R hR => ?_
    walk_at "n"
    refine ⟨rfl, ?_⟩
    refine hR _ _ (fun i sc h => (∃ o5, sc = [.val (.frz (ns.map D.int)), .val (.ref r), .val (.int j), .val (fmD p l h'), .val (.tup [.int x, .int f', .int s', .int k']), o5]) ∧ Dk hc r q (100 * j + 20 + 2 * i) h) ⟨⟨_, rfl⟩, dk.mono (by omega)⟩ (fun i2 d sc h Nx2 e I nx2 => ?_) (fun sc h I => ?_)
    · obtain ⟨⟨o5, rfl⟩, dk⟩ := I
      obtain ⟨w, rfl, hw⟩ := way_mem2 (List.mem_of_getElem? e)
      have i5 : i2 < 5 := (List.getElem?_eq_some_iff.mp e).1
      clear e
      walk_at "n"
      refine ⟨w, p, l, h', x, f', s', k', rfl, sm, hw, rw', xb, sb, ?_⟩
      walk_at "n"
      exact nx2 _ _ ⟨⟨_, rfl⟩, dk.mono (by omega)⟩
    · obtain ⟨⟨o5, rfl⟩, dk⟩ := I
      refine nx _ _ ⟨⟨_, _, _, _, rfl⟩, dk.mono ?_⟩
      show 100 * j + 20 + 2 * 5 ≤ _
      omega
  · obtain ⟨⟨o2, o3, o4, o5, rfl⟩, dk⟩ := I
    refine hM _ _ ?_
    walk_at "n"
    exact k _


theorem at_law (T : Txt K mg) (B : BaseT K mg base) (KX : K.In base) (PS : Sup P mf) (A__law_deck : FnAt P w K mg base 1 "_law_deck" ["_law_script"] sp__law_deck) (A__law_form : FnAt P w K mg base 2 "_law_form" ["_law_deck_here"] sp__law_form) (A__law_draw : FnAt P w K mg base 1 "_law_draw" ["_law_deck_here", "_law_many"] sp__law_draw) (A__law_power : FnAt P w K mg base 3 "_law_power" ["_law_deck_here", "_law_form_here"] sp__law_power) (A__law_row : FnAt P w K mg base 3 "_law_row" ["_law_deck_here", "_law_power_here", "_law_bits"] sp__law_row) (A_is_sound : FnAt P w K mg base 3 "is_sound" ["row"] sp_is_sound) (A__law_sound : FnAt P w K mg base 2 "_law_sound" ["_law_row_here"] sp__law_sound) (A__law_ways : FnAt P w K mg base 1 "_law_ways" [] sp__law_ways) (A__law_right : FnAt P w K mg base 8 "_law_right" ["_law_form_here", "_law_way", "_law_row_here"] sp__law_right) : FnAt P w K mg base 9 "law" ["_law_script"] sp_law :=
  fn_at (c := c_law) T.d_law sc_law (fun f cdv A outer s H E hr => by
    have nd := sc_law.nd
    exact (css_cons (cs_set nd (ce_f A__law_deck hr (ca_cons (ce_v 0) ca_nil)))
    (css_cons (cs_for hr.p rfl (ci_r1 T.n_range (ca_cons ce_i ca_nil)) (cg_n 2 nd)
    (css_cons (cs_set nd (ce_f A__law_form hr (ca_cons (ce_v 1) ca_nil)))
    (css_cons (cs_set nd (ce_f A__law_row hr (ca_cons (ce_v 1) (ca_cons (ce_f A__law_power hr (ca_cons (ce_v 1) (ca_cons (ce_v 3) ca_nil))) (ca_cons (ce_op op_addD (CE.bo ce_i) (CE.bo (ce_f A__law_draw hr (ca_cons (ce_v 1) (ca_cons ce_i ca_nil))))) ca_nil)))))
    (css_cons (cs_if (ct_cmp (op_neDD hr.g.units) (CE.bo (ce_f A_is_sound hr (ca_cons (ce_v 4) ca_nil))) (CE.bo (ce_f A__law_sound hr (ca_cons (ce_v 4) ca_nil))))
    (css_one (cs_ret (CE.bo ce_b)))
    css_nil)
    (css_one (cs_for hr.p rfl (ci_e (ce_f0 A__law_ways hr)) (cg_n 5 nd)
    (css_one (cs_if (ct_not (ct_e (ce_f A__law_right hr (ca_cons (ce_v 3) (ca_cons (ce_v 5) (ca_cons (ce_v 4) ca_nil))))))
    (css_one (cs_ret (CE.bo ce_b)))
    css_nil))))))))
    (css_one (cs_ret (CE.bo ce_b))))))
    (fun ds hc Q E h => len_law h) (fun ds hc Q E h => pure_law h) (fun _ _ _ _ _ _ us hl => match us, hl with | [_], _ => rfl)

/-! the head -/

def dd__law_deck : He.DefD := ⟨("_law_deck", none), "_law_deck", "_law_deck", defArgs s__law_deck, defBody s__law_deck, defScope s__law_deck, [], []⟩

def dd__law_draw : He.DefD := ⟨("_law_draw", none), "_law_draw", "_law_draw", defArgs s__law_draw, defBody s__law_draw, defScope s__law_draw, [], []⟩

def dd__law_form : He.DefD := ⟨("_law_form", none), "_law_form", "_law_form", defArgs s__law_form, defBody s__law_form, defScope s__law_form, [], []⟩

def dd__law_pick : He.DefD := ⟨("_law_pick", none), "_law_pick", "_law_pick", defArgs s__law_pick, defBody s__law_pick, defScope s__law_pick, [], []⟩

def dd__law_power : He.DefD := ⟨("_law_power", none), "_law_power", "_law_power", defArgs s__law_power, defBody s__law_power, defScope s__law_power, [], []⟩

def dd__law_ten : He.DefD := ⟨("_law_ten", none), "_law_ten", "_law_ten", defArgs s__law_ten, defBody s__law_ten, defScope s__law_ten, [], []⟩

def dd__law_cut : He.DefD := ⟨("_law_cut", none), "_law_cut", "_law_cut", defArgs s__law_cut, defBody s__law_cut, defScope s__law_cut, [], []⟩

def dd__law_row : He.DefD := ⟨("_law_row", none), "_law_row", "_law_row", defArgs s__law_row, defBody s__law_row, defScope s__law_row, [], []⟩

def dd_ten : He.DefD := ⟨("ten", none), "ten", "ten", defArgs s_ten, defBody s_ten, defScope s_ten, [], []⟩

def dd_power_fraction : He.DefD := ⟨("power_fraction", none), "power_fraction", "power_fraction", defArgs s_power_fraction, defBody s_power_fraction, defScope s_power_fraction, [], []⟩

def dd_shifted : He.DefD := ⟨("shifted", none), "shifted", "shifted", defArgs s_shifted, defBody s_shifted, defScope s_shifted, [], []⟩

def dd_run_slope : He.DefD := ⟨("run_slope", none), "run_slope", "run_slope", defArgs s_run_slope, defBody s_run_slope, defScope s_run_slope, [], []⟩

def dd_is_above : He.DefD := ⟨("is_above", none), "is_above", "is_above", defArgs s_is_above, defBody s_is_above, defScope s_is_above, [], []⟩

def dd_top_slope : He.DefD := ⟨("top_slope", none), "top_slope", "top_slope", defArgs s_top_slope, defBody s_top_slope, defScope s_top_slope, [], []⟩

def dd_is_sound : He.DefD := ⟨("is_sound", none), "is_sound", "is_sound", defArgs s_is_sound, defBody s_is_sound, defScope s_is_sound, [], []⟩

def dd__law_sound : He.DefD := ⟨("_law_sound", none), "_law_sound", "_law_sound", defArgs s__law_sound, defBody s__law_sound, defScope s__law_sound, [], []⟩

def dd__law_ways : He.DefD := ⟨("_law_ways", none), "_law_ways", "_law_ways", defArgs s__law_ways, defBody s__law_ways, defScope s__law_ways, [], []⟩

def dd_check_sound : He.DefD := ⟨("check_sound", none), "check_sound", "check_sound", defArgs s_check_sound, defBody s_check_sound, defScope s_check_sound, [], []⟩

def dd_floor_log : He.DefD := ⟨("floor_log", none), "floor_log", "floor_log", defArgs s_floor_log, defBody s_floor_log, defScope s_floor_log, [], []⟩

def dd_exponent_of : He.DefD := ⟨("exponent_of", none), "exponent_of", "exponent_of", defArgs s_exponent_of, defBody s_exponent_of, defScope s_exponent_of, [], []⟩

def dd_position_line : He.DefD := ⟨("position_line", none), "position_line", "position_line", defArgs s_position_line, defBody s_position_line, defScope s_position_line, [], []⟩

def dd_below_half_stair : He.DefD := ⟨("below_half_stair", none), "below_half_stair", "below_half_stair", defArgs s_below_half_stair, defBody s_below_half_stair, defScope s_below_half_stair, [], []⟩

def dd_half_stair : He.DefD := ⟨("half_stair", none), "half_stair", "half_stair", defArgs s_half_stair, defBody s_half_stair, defScope s_half_stair, [], []⟩

def dd_read_stair : He.DefD := ⟨("read_stair", none), "read_stair", "read_stair", defArgs s_read_stair, defBody s_read_stair, defScope s_read_stair, [], []⟩

def dd_half_of : He.DefD := ⟨("half_of", none), "half_of", "half_of", defArgs s_half_of, defBody s_half_of, defScope s_half_of, [], []⟩

def dd_count_of : He.DefD := ⟨("count_of", none), "count_of", "count_of", defArgs s_count_of, defBody s_count_of, defScope s_count_of, [], []⟩

def dd_beyond_code : He.DefD := ⟨("beyond_code", none), "beyond_code", "beyond_code", defArgs s_beyond_code, defBody s_beyond_code, defScope s_beyond_code, [], []⟩

def dd_stair_on : He.DefD := ⟨("stair_on", none), "stair_on", "stair_on", defArgs s_stair_on, defBody s_stair_on, defScope s_stair_on, [], []⟩

def dd_value_at : He.DefD := ⟨("value_at", none), "value_at", "value_at", defArgs s_value_at, defBody s_value_at, defScope s_value_at, [], []⟩

def dd_stair_at : He.DefD := ⟨("stair_at", none), "stair_at", "stair_at", defArgs s_stair_at, defBody s_stair_at, defScope s_stair_at, [], []⟩

def dd_told_by : He.DefD := ⟨("told_by", none), "told_by", "told_by", defArgs s_told_by, defBody s_told_by, defScope s_told_by, [], []⟩

def dd_guarded_read : He.DefD := ⟨("guarded_read", none), "guarded_read", "guarded_read", defArgs s_guarded_read, defBody s_guarded_read, defScope s_guarded_read, [], []⟩

def dd__law_told_run : He.DefD := ⟨("_law_told_run", none), "_law_told_run", "_law_told_run", defArgs s__law_told_run, defBody s__law_told_run, defScope s__law_told_run, [], []⟩

def dd__law_slope : He.DefD := ⟨("_law_slope", none), "_law_slope", "_law_slope", defArgs s__law_slope, defBody s__law_slope, defScope s__law_slope, [], []⟩

def dd__law_values : He.DefD := ⟨("_law_values", none), "_law_values", "_law_values", defArgs s__law_values, defBody s__law_values, defScope s__law_values, [], []⟩

def dd__law_told : He.DefD := ⟨("_law_told", none), "_law_told", "_law_told", defArgs s__law_told, defBody s__law_told, defScope s__law_told, [], []⟩

def dd__law_codes : He.DefD := ⟨("_law_codes", none), "_law_codes", "_law_codes", defArgs s__law_codes, defBody s__law_codes, defScope s__law_codes, [], []⟩

def dd__law_whole : He.DefD := ⟨("_law_whole", none), "_law_whole", "_law_whole", defArgs s__law_whole, defBody s__law_whole, defScope s__law_whole, [], []⟩

def dd__law_right : He.DefD := ⟨("_law_right", none), "_law_right", "_law_right", defArgs s__law_right, defBody s__law_right, defScope s__law_right, [], []⟩

def dd_law : He.DefD := ⟨("law", none), "law", "law", defArgs s_law, defBody s_law, defScope s_law, [], []⟩

def fn : List He.DefD := [dd__law_deck, dd__law_draw, dd__law_form, dd__law_pick, dd__law_power, dd__law_ten, dd__law_cut, dd__law_row, dd_ten, dd_power_fraction, dd_shifted, dd_run_slope, dd_is_above, dd_top_slope, dd_is_sound, dd__law_sound, dd__law_ways, dd_check_sound, dd_floor_log, dd_exponent_of, dd_position_line, dd_below_half_stair, dd_half_stair, dd_read_stair, dd_half_of, dd_count_of, dd_beyond_code, dd_stair_on, dd_value_at, dd_stair_at, dd_told_by, dd_guarded_read, dd__law_told_run, dd__law_slope, dd__law_values, dd__law_told, dd__law_codes, dd__law_whole, dd__law_right, dd_law]

def fa : List He.Fa := [.glo "_law_deck", .glo "_law_draw", .glo "_law_form", .glo "_law_pick", .glo "_law_power", .glo "_law_ten", .glo "_law_cut", .glo "_law_row", .glo "ten", .glo "power_fraction", .glo "shifted", .glo "run_slope", .glo "is_above", .glo "top_slope", .glo "is_sound", .glo "_law_sound", .glo "_law_ways", .glo "check_sound", .glo "floor_log", .glo "exponent_of", .glo "position_line", .glo "below_half_stair", .glo "half_stair", .glo "read_stair", .glo "half_of", .glo "count_of", .glo "beyond_code", .glo "stair_on", .glo "value_at", .glo "stair_at", .glo "told_by", .glo "guarded_read", .glo "_law_told_run", .glo "_law_slope", .glo "_law_values", .glo "_law_told", .glo "_law_codes", .glo "_law_whole", .glo "_law_right", .glo "law", .free "ValueError", .free "abs", .free "bool", .free "int", .free "isinstance", .free "len", .free "list", .free "max", .free "min", .free "range", .free "sum", .free "super", .str "ODD" "odd", .str "ZERO" "zero", .glo "NotSound", .glo "NumberError", .glo "below_half_stair", .glo "half_stair", .glo "read_stair", .exm "NotSound" "NumberError" true]

def tc : TupC := []

abbrev R : PySem.W.OpenRow := PySem.W.OpenLaw.row PySem.Challenge.rw_numbertexts_k41_whole_guarded_runs
def lm : List PySem.Str := []
def ini : List IniD := [ini_NotSound]
def isl : List IsF := [.own "NotSound" "NotSound" true, .blt "NotSound" "ValueError" true]
abbrev hk : PySem.W.Hook := hookZ 4 fa fn tc lm mf ini fvL isl
def ob (s : PySem.W.SharedT) : ((((He.AlD × Bool) × Bool) × (Bool × List IniW)) × Bool) × Bool := obsZG 4 fa fn tc lm mf ini fvL isl (HandSHeadRun.getT s)
theorem ob_eq (s : PySem.W.SharedT) : ob s = hk.obs s.abs := obsZG_eq (HandSHeadRun.getT_eq s)

def loose : List PySem.Str := (["ten", "power_fraction", "shifted", "floor_log", "NumberError", "NotSound", "half_of", "count_of", "ZERO", "ODD", "run_slope", "top_slope"] : List PySem.Str) ++ (["is_above", "exponent_of", "position_line", "read_stair", "half_stair", "below_half_stair", "beyond_code", "stair_on", "value_at", "stair_at", "is_sound", "check_sound"] : List PySem.Str) ++ (["told_by", "guarded_read", "_law_deck", "_law_draw", "_law_pick", "_law_whole", "_law_ten", "_law_cut", "_law_slope", "_law_values", "_law_told", "_law_codes"] : List PySem.Str) ++ (["_law_form", "_law_power", "_law_row", "_law_sound", "_law_ways", "_law_told_run", "_law_right"] : List PySem.Str)

theorem run (w : World) : HandSHeadRun.RunEq R (PySem.W.view R.prog [52]) hk ob 6760 loose w := by
  intro os
  kernel_rfl

theorem txt_of {h : Heap} (X : K.In h) (G : h.Ns mainGlobals mg) (v : SaysT fa fn tc K h) (l : ∀ x ∈ lm, lamN K x = true) (o : ∀ d ∈ ini, ownB K mf d = true ∧ iniW K d.x = d.val) (fvk : FvOk K fvL) (isq : ∀ f ∈ isl, isB K f = true) : Txt K mg :=
  have u := v.1
  {
    d__law_deck := by
      obtain ⟨fd, F⟩ := u.d.def_ 0 (d := dd__law_deck) rfl
      exact ⟨_, fd, F, He.glo_ok X G (u.d.fact 0 (f := .glo "_law_deck") rfl)⟩
    d__law_draw := by
      obtain ⟨fd, F⟩ := u.d.def_ 1 (d := dd__law_draw) rfl
      exact ⟨_, fd, F, He.glo_ok X G (u.d.fact 1 (f := .glo "_law_draw") rfl)⟩
    d__law_form := by
      obtain ⟨fd, F⟩ := u.d.def_ 2 (d := dd__law_form) rfl
      exact ⟨_, fd, F, He.glo_ok X G (u.d.fact 2 (f := .glo "_law_form") rfl)⟩
    d__law_pick := by
      obtain ⟨fd, F⟩ := u.d.def_ 3 (d := dd__law_pick) rfl
      exact ⟨_, fd, F, He.glo_ok X G (u.d.fact 3 (f := .glo "_law_pick") rfl)⟩
    d__law_power := by
      obtain ⟨fd, F⟩ := u.d.def_ 4 (d := dd__law_power) rfl
      exact ⟨_, fd, F, He.glo_ok X G (u.d.fact 4 (f := .glo "_law_power") rfl)⟩
    d__law_ten := by
      obtain ⟨fd, F⟩ := u.d.def_ 5 (d := dd__law_ten) rfl
      exact ⟨_, fd, F, He.glo_ok X G (u.d.fact 5 (f := .glo "_law_ten") rfl)⟩
    d__law_cut := by
      obtain ⟨fd, F⟩ := u.d.def_ 6 (d := dd__law_cut) rfl
      exact ⟨_, fd, F, He.glo_ok X G (u.d.fact 6 (f := .glo "_law_cut") rfl)⟩
    d__law_row := by
      obtain ⟨fd, F⟩ := u.d.def_ 7 (d := dd__law_row) rfl
      exact ⟨_, fd, F, He.glo_ok X G (u.d.fact 7 (f := .glo "_law_row") rfl)⟩
    d_ten := by
      obtain ⟨fd, F⟩ := u.d.def_ 8 (d := dd_ten) rfl
      exact ⟨_, fd, F, He.glo_ok X G (u.d.fact 8 (f := .glo "ten") rfl)⟩
    d_power_fraction := by
      obtain ⟨fd, F⟩ := u.d.def_ 9 (d := dd_power_fraction) rfl
      exact ⟨_, fd, F, He.glo_ok X G (u.d.fact 9 (f := .glo "power_fraction") rfl)⟩
    d_shifted := by
      obtain ⟨fd, F⟩ := u.d.def_ 10 (d := dd_shifted) rfl
      exact ⟨_, fd, F, He.glo_ok X G (u.d.fact 10 (f := .glo "shifted") rfl)⟩
    d_run_slope := by
      obtain ⟨fd, F⟩ := u.d.def_ 11 (d := dd_run_slope) rfl
      exact ⟨_, fd, F, He.glo_ok X G (u.d.fact 11 (f := .glo "run_slope") rfl)⟩
    d_is_above := by
      obtain ⟨fd, F⟩ := u.d.def_ 12 (d := dd_is_above) rfl
      exact ⟨_, fd, F, He.glo_ok X G (u.d.fact 12 (f := .glo "is_above") rfl)⟩
    d_top_slope := by
      obtain ⟨fd, F⟩ := u.d.def_ 13 (d := dd_top_slope) rfl
      exact ⟨_, fd, F, He.glo_ok X G (u.d.fact 13 (f := .glo "top_slope") rfl)⟩
    d_is_sound := by
      obtain ⟨fd, F⟩ := u.d.def_ 14 (d := dd_is_sound) rfl
      exact ⟨_, fd, F, He.glo_ok X G (u.d.fact 14 (f := .glo "is_sound") rfl)⟩
    d__law_sound := by
      obtain ⟨fd, F⟩ := u.d.def_ 15 (d := dd__law_sound) rfl
      exact ⟨_, fd, F, He.glo_ok X G (u.d.fact 15 (f := .glo "_law_sound") rfl)⟩
    d__law_ways := by
      obtain ⟨fd, F⟩ := u.d.def_ 16 (d := dd__law_ways) rfl
      exact ⟨_, fd, F, He.glo_ok X G (u.d.fact 16 (f := .glo "_law_ways") rfl)⟩
    d_check_sound := by
      obtain ⟨fd, F⟩ := u.d.def_ 17 (d := dd_check_sound) rfl
      exact ⟨_, fd, F, He.glo_ok X G (u.d.fact 17 (f := .glo "check_sound") rfl)⟩
    d_floor_log := by
      obtain ⟨fd, F⟩ := u.d.def_ 18 (d := dd_floor_log) rfl
      exact ⟨_, fd, F, He.glo_ok X G (u.d.fact 18 (f := .glo "floor_log") rfl)⟩
    d_exponent_of := by
      obtain ⟨fd, F⟩ := u.d.def_ 19 (d := dd_exponent_of) rfl
      exact ⟨_, fd, F, He.glo_ok X G (u.d.fact 19 (f := .glo "exponent_of") rfl)⟩
    d_position_line := by
      obtain ⟨fd, F⟩ := u.d.def_ 20 (d := dd_position_line) rfl
      exact ⟨_, fd, F, He.glo_ok X G (u.d.fact 20 (f := .glo "position_line") rfl)⟩
    d_below_half_stair := by
      obtain ⟨fd, F⟩ := u.d.def_ 21 (d := dd_below_half_stair) rfl
      exact ⟨_, fd, F, He.glo_ok X G (u.d.fact 21 (f := .glo "below_half_stair") rfl)⟩
    d_half_stair := by
      obtain ⟨fd, F⟩ := u.d.def_ 22 (d := dd_half_stair) rfl
      exact ⟨_, fd, F, He.glo_ok X G (u.d.fact 22 (f := .glo "half_stair") rfl)⟩
    d_read_stair := by
      obtain ⟨fd, F⟩ := u.d.def_ 23 (d := dd_read_stair) rfl
      exact ⟨_, fd, F, He.glo_ok X G (u.d.fact 23 (f := .glo "read_stair") rfl)⟩
    d_half_of := by
      obtain ⟨fd, F⟩ := u.d.def_ 24 (d := dd_half_of) rfl
      exact ⟨_, fd, F, He.glo_ok X G (u.d.fact 24 (f := .glo "half_of") rfl)⟩
    d_count_of := by
      obtain ⟨fd, F⟩ := u.d.def_ 25 (d := dd_count_of) rfl
      exact ⟨_, fd, F, He.glo_ok X G (u.d.fact 25 (f := .glo "count_of") rfl)⟩
    d_beyond_code := by
      obtain ⟨fd, F⟩ := u.d.def_ 26 (d := dd_beyond_code) rfl
      exact ⟨_, fd, F, He.glo_ok X G (u.d.fact 26 (f := .glo "beyond_code") rfl)⟩
    d_stair_on := by
      obtain ⟨fd, F⟩ := u.d.def_ 27 (d := dd_stair_on) rfl
      exact ⟨_, fd, F, He.glo_ok X G (u.d.fact 27 (f := .glo "stair_on") rfl)⟩
    d_value_at := by
      obtain ⟨fd, F⟩ := u.d.def_ 28 (d := dd_value_at) rfl
      exact ⟨_, fd, F, He.glo_ok X G (u.d.fact 28 (f := .glo "value_at") rfl)⟩
    d_stair_at := by
      obtain ⟨fd, F⟩ := u.d.def_ 29 (d := dd_stair_at) rfl
      exact ⟨_, fd, F, He.glo_ok X G (u.d.fact 29 (f := .glo "stair_at") rfl)⟩
    d_told_by := by
      obtain ⟨fd, F⟩ := u.d.def_ 30 (d := dd_told_by) rfl
      exact ⟨_, fd, F, He.glo_ok X G (u.d.fact 30 (f := .glo "told_by") rfl)⟩
    d_guarded_read := by
      obtain ⟨fd, F⟩ := u.d.def_ 31 (d := dd_guarded_read) rfl
      exact ⟨_, fd, F, He.glo_ok X G (u.d.fact 31 (f := .glo "guarded_read") rfl)⟩
    d__law_told_run := by
      obtain ⟨fd, F⟩ := u.d.def_ 32 (d := dd__law_told_run) rfl
      exact ⟨_, fd, F, He.glo_ok X G (u.d.fact 32 (f := .glo "_law_told_run") rfl)⟩
    d__law_slope := by
      obtain ⟨fd, F⟩ := u.d.def_ 33 (d := dd__law_slope) rfl
      exact ⟨_, fd, F, He.glo_ok X G (u.d.fact 33 (f := .glo "_law_slope") rfl)⟩
    d__law_values := by
      obtain ⟨fd, F⟩ := u.d.def_ 34 (d := dd__law_values) rfl
      exact ⟨_, fd, F, He.glo_ok X G (u.d.fact 34 (f := .glo "_law_values") rfl)⟩
    d__law_told := by
      obtain ⟨fd, F⟩ := u.d.def_ 35 (d := dd__law_told) rfl
      exact ⟨_, fd, F, He.glo_ok X G (u.d.fact 35 (f := .glo "_law_told") rfl)⟩
    d__law_codes := by
      obtain ⟨fd, F⟩ := u.d.def_ 36 (d := dd__law_codes) rfl
      exact ⟨_, fd, F, He.glo_ok X G (u.d.fact 36 (f := .glo "_law_codes") rfl)⟩
    d__law_whole := by
      obtain ⟨fd, F⟩ := u.d.def_ 37 (d := dd__law_whole) rfl
      exact ⟨_, fd, F, He.glo_ok X G (u.d.fact 37 (f := .glo "_law_whole") rfl)⟩
    d__law_right := by
      obtain ⟨fd, F⟩ := u.d.def_ 38 (d := dd__law_right) rfl
      exact ⟨_, fd, F, He.glo_ok X G (u.d.fact 38 (f := .glo "_law_right") rfl)⟩
    d_law := by
      obtain ⟨fd, F⟩ := u.d.def_ 39 (d := dd_law) rfl
      exact ⟨_, fd, F, He.glo_ok X G (u.d.fact 39 (f := .glo "law") rfl)⟩
    n_ValueError := He.free_ok X G (u.d.fact 40 (f := .free "ValueError") rfl)
    n_abs := He.free_ok X G (u.d.fact 41 (f := .free "abs") rfl)
    n_bool := He.free_ok X G (u.d.fact 42 (f := .free "bool") rfl)
    n_int := He.free_ok X G (u.d.fact 43 (f := .free "int") rfl)
    n_isinstance := He.free_ok X G (u.d.fact 44 (f := .free "isinstance") rfl)
    n_len := He.free_ok X G (u.d.fact 45 (f := .free "len") rfl)
    n_list := He.free_ok X G (u.d.fact 46 (f := .free "list") rfl)
    n_max := He.free_ok X G (u.d.fact 47 (f := .free "max") rfl)
    n_min := He.free_ok X G (u.d.fact 48 (f := .free "min") rfl)
    n_range := He.free_ok X G (u.d.fact 49 (f := .free "range") rfl)
    n_sum := He.free_ok X G (u.d.fact 50 (f := .free "sum") rfl)
    n_super := He.free_ok X G (u.d.fact 51 (f := .free "super") rfl)
    k_ODD := GlobC.str (He.str_ok X G (u.d.fact 52 (f := .str "ODD" "odd") rfl))
    k_ZERO := GlobC.str (He.str_ok X G (u.d.fact 53 (f := .str "ZERO" "zero") rfl))
    lim := u.s
    tnd := v.2.1
    x_NotSound := ownC_of (d := ini_NotSound) (o ini_NotSound (by simp [ini])).1 (o ini_NotSound (by simp [ini])).2 t_NotSound (He.glo_ok X G (u.d.fact 54 (f := .glo "NotSound") rfl))
    e_NotSound_NumberError := ⟨_, _, He.glo_ok X G (u.d.fact 54 (f := .glo "NotSound") rfl), He.glo_ok X G (u.d.fact 55 (f := .glo "NumberError") rfl), of_decide_eq_true (u.d.fact 59 (f := .exm "NotSound" "NumberError" true) rfl)⟩
    g_NotSound := ⟨_, He.glo_ok X G (u.d.fact 54 (f := .glo "NotSound") rfl)⟩
    g_NumberError := ⟨_, He.glo_ok X G (u.d.fact 55 (f := .glo "NumberError") rfl)⟩
    j_NotSound_NotSound := isN_of (isq _ (List.mem_of_getElem? (i := 0) rfl)) (He.glo_ok X G (u.d.fact 54 (f := .glo "NotSound") rfl)) (He.glo_ok X G (u.d.fact 54 (f := .glo "NotSound") rfl))
    j_NotSound_ValueError := isK_of (f := .blt "NotSound" "ValueError" true) (isq _ (List.mem_of_getElem? (i := 1) rfl)) (He.glo_ok X G (u.d.fact 54 (f := .glo "NotSound") rfl))
    fv := fvk
    v_below_half_stair := He.glo_ok X G (u.d.fact 56 (f := .glo "below_half_stair") rfl)
    v_half_stair := He.glo_ok X G (u.d.fact 57 (f := .glo "half_stair") rfl)
    v_read_stair := He.glo_ok X G (u.d.fact 58 (f := .glo "read_stair") rfl) }

theorem law_at (T : Txt K mg) (B : BaseT K mg base) (KX : K.In base) (PS : Sup P mf) : FnAt P w K mg base 9 "law" ["_law_script"] sp_law := by
  have A__law_deck := at__law_deck (P := P) (w := w) (base := base) T B KX PS 
  have A__law_draw := at__law_draw (P := P) (w := w) (base := base) T B KX PS 
  have A__law_form := at__law_form (P := P) (w := w) (base := base) T B KX PS A__law_draw
  have A__law_pick := at__law_pick (P := P) (w := w) (base := base) T B KX PS A__law_draw
  have A__law_power := at__law_power (P := P) (w := w) (base := base) T B KX PS A__law_draw A__law_pick
  have A__law_ten := at__law_ten (P := P) (w := w) (base := base) T B KX PS 
  have A__law_cut := at__law_cut (P := P) (w := w) (base := base) T B KX PS A__law_ten
  have A__law_row := at__law_row (P := P) (w := w) (base := base) T B KX PS A__law_cut A__law_draw
  have A_ten := at_ten (P := P) (w := w) (base := base) T B KX PS 
  have A_power_fraction := at_power_fraction (P := P) (w := w) (base := base) T B KX PS A_ten
  have A_shifted := at_shifted (P := P) (w := w) (base := base) T B KX PS 
  have A_run_slope := at_run_slope (P := P) (w := w) (base := base) T B KX PS A_shifted
  have A_is_above := at_is_above (P := P) (w := w) (base := base) T B KX PS 
  have A_top_slope := at_top_slope (P := P) (w := w) (base := base) T B KX PS A_shifted
  have A_is_sound := at_is_sound (P := P) (w := w) (base := base) T B KX PS A_power_fraction A_run_slope A_is_above A_top_slope
  have A__law_sound := at__law_sound (P := P) (w := w) (base := base) T B KX PS A__law_ten
  have A__law_ways := at__law_ways (P := P) (w := w) (base := base) T B KX PS 
  have A_check_sound := at_check_sound (P := P) (w := w) (base := base) T B KX PS A_is_sound
  have A_floor_log := at_floor_log (P := P) (w := w) (base := base) T B KX PS A_shifted
  have A_exponent_of := at_exponent_of (P := P) (w := w) (base := base) T B KX PS A_floor_log
  have A_position_line := at_position_line (P := P) (w := w) (base := base) T B KX PS 
  have A_below_half_stair := at_below_half_stair (P := P) (w := w) (base := base) T B KX PS 
  have A_half_stair := at_half_stair (P := P) (w := w) (base := base) T B KX PS 
  have A_read_stair := at_read_stair (P := P) (w := w) (base := base) T B KX PS 
  have A_half_of := at_half_of (P := P) (w := w) (base := base) T B KX PS 
  have A_count_of := at_count_of (P := P) (w := w) (base := base) T B KX PS A_half_of
  have A_beyond_code := at_beyond_code (P := P) (w := w) (base := base) T B KX PS A_count_of
  have A_stair_on := at_stair_on (P := P) (w := w) (base := base) T B KX PS A_position_line A_below_half_stair A_half_stair A_read_stair A_beyond_code
  have A_value_at := at_value_at (P := P) (w := w) (base := base) T B KX PS 
  have A_stair_at := at_stair_at (P := P) (w := w) (base := base) T B KX PS A_value_at
  have A_told_by := at_told_by (P := P) (w := w) (base := base) T B KX PS A_exponent_of A_stair_on A_stair_at
  have A_guarded_read := at_guarded_read (P := P) (w := w) (base := base) T B KX PS A_check_sound A_run_slope A_told_by A_top_slope
  have A__law_told_run := at__law_told_run (P := P) (w := w) (base := base) T B KX PS A_guarded_read
  have A__law_slope := at__law_slope (P := P) (w := w) (base := base) T B KX PS A__law_ten
  have A__law_values := at__law_values (P := P) (w := w) (base := base) T B KX PS 
  have A__law_told := at__law_told (P := P) (w := w) (base := base) T B KX PS 
  have A__law_codes := at__law_codes (P := P) (w := w) (base := base) T B KX PS A__law_values A__law_told
  have A__law_whole := at__law_whole (P := P) (w := w) (base := base) T B KX PS 
  have A__law_right := at__law_right (P := P) (w := w) (base := base) T B KX PS A__law_told_run A__law_sound A__law_slope A__law_codes A__law_whole
  have A_law := at_law (P := P) (w := w) (base := base) T B KX PS A__law_deck A__law_form A__law_draw A__law_power A__law_row A_is_sound A__law_sound A__law_ways A__law_right
  exact A_law

end Lk41
open PySem PySem.W PySem.Calls PyProof.Rows
set_option maxHeartbeats 0 in

theorem PySem.Challenge.cw_numbertexts_k41_whole_guarded_runs_holds : PySem.Challenge.rw_numbertexts_k41_whole_guarded_runs.Holds := by
  w_on; o_law
  refine HandSHeadRun.head_any (r := OpenLaw.row PySem.Challenge.rw_numbertexts_k41_whole_guarded_runs) (q := view (OpenLaw.row PySem.Challenge.rw_numbertexts_k41_whole_guarded_runs).prog [52]) (H := Lk41.hk) (ob := Lk41.ob) (M := 6760) (loose := Lk41.loose) (d := HandSHeadRun.topDef (OpenLaw.row PySem.Challenge.rw_numbertexts_k41_whole_guarded_runs).prog 52) (kwd := []) Lk41.ob_eq
    (by kernel_rfl) (fun s => by kernel_rfl) Lk41.run (by kernel_rfl) (by kernel_rfl) (by kernel_rfl) (by rfl) (by first | assumption | decide +kernel) (by decide +kernel) ⟨rfl, rfl, rfl, rfl, rfl, by decide +kernel⟩ ?hw ?hc
  case hw => w_witness2
  case hc =>
    refine Mn.walkT (l := PySem.Challenge.rw_numbertexts_k41_whole_guarded_runs) (n := 63) (k := 9) (x := "_law_script") rfl (by decide) (by kernel_rfl) ⟨rfl, by decide, by decide⟩ ?F
    intro w mg fa h Y G hmg0
    obtain ⟨K, KX, c, lmk, ox, fvk, isq⟩ := Y
    have hmg : mg ("law" : PySem.Str) = some (.ref fa) := by
      have e : (HandSHeadRun.topDef (OpenLaw.row PySem.Challenge.rw_numbertexts_k41_whole_guarded_runs).prog 52).name = ("law" : PySem.Str) := by kernel_rfl
      rw [← e]
      exact hmg0
    have T := Lk41.txt_of KX G c lmk ox fvk isq
    exact Mn.law_finT KX c.2.2 T.d_law hmg (fun _ _ _ _ _ _ us hl => match us, hl with | [_], _ => rfl) fun base KB B => Lk41.law_at (P := (PySem.Challenge.rw_numbertexts_k41_whole_guarded_runs).prog) (w := w) (base := base) T B KB ⟨by kernel_rfl, by kernel_rfl⟩
