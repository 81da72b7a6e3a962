import PyProof.Rows.All
import Wide.All
import OpenK.AllK
import Wide.FinOn
import KE.KStateDown
import HandS.ForMost
import HandS.Wide
import HandS.WideBits
import HandS.ForExc
import HandS.Defaults
import HandS.HeadEnd
import PyProof.ReprRoads
import HandS.TupAny
import HandS.Star
import HandS.Lambda
import HandS.Nested
import HandS.HeadHook4
import HandS.TupMul
import PyProof.LongRange
import HandS.Style
import HandS.NoneIn
import HandS.IsInst
import HandS.Head0
import HandS.Head1
import HandS.Head2
import HandS.HeadHook1
import HandS.HeadHook2
import HandS.Dict
import PyProof.P3In
import PyProof.StrLawsRepr
import PyProof.RulesMatch
import KE.BitLaws
import HandS.Iter
import HandS.Conv
import PyProof.Rows.StrDigits
import HandS.StrMore
import KE.GoesMore
import HandS.SetFor
import HandS.Strs
import PyProof.Rows.SortShellAny
import HandS.Replace
import HandS.IntHex
import KE.KIntText
import KE.KLam
import KE.KExcSuper
import KE.KExcInit
import HandS.ExcSuper
import HandS.ExcField
import HandS.ExcIs
import HandS.ExcInit
import PyProof.InstEq
import PyProof.Rows.StrInSeq
import HandS.OwnEq
import HandS.Spec
import HandS.Sort
import HandS.SortOrd
import HandS.SortRule
import KE.GoesZip
import PySem.Challenge.RW_numbertexts_k10_whole_parted_on_long_ran

set_option Elab.async false
set_option linter.all false
set_option maxRecDepth 100000

/-! Mn0: defs whose callers are known to be inside no repr. -/
namespace Mn
open PySem PySem.Spec PyProof.Rows L2
/-- room, and no repr under way -/
structure RG (k : Nat) (A : Around) : Prop where
  r : Room k A
  g : A.guards = some []
theorem RG.mono {j k : Nat} {A : Around} (x : RG k A) (h : j ≤ k) : RG j A := ⟨x.r.mono h, x.g⟩
theorem RG.deeper {k : Nat} {A : Around} (x : RG (k + 1) A) (env : Env) : RG k (A.deeper env) := ⟨x.r.deeper env, x.g⟩
theorem RG.units {k : Nat} {A : Around} (x : RG k A) : A.units + 64 < cLine := x.r.units
/-- a def's promise to such callers -/
structure FnG (P : Program) (w : World) (K : PySem.W.Frag) (mg : Str → Option Value) (base : Heap) (C : CXT) (k : Nat) (f : Addr) (fd : FuncData) (ps : List Str) (sp : Sp) : Prop where
  len : ∀ vs H Q E, sp vs H Q E → vs.length = ps.length
  run : ∀ (A : Around) (outer : List Env) (s : Shared) (H : Hp) (args : Args) (us : List Value) (vs : List V) (Q : VK) (E : XK), RG k A → Env0 P w K mg base A outer s H → BindsTo s fd args (ps.zip us) → Vals vs us → sp vs H Q E →
    codeAny (model P w) A (.call (.ref f) args) (CR C outer P w H s Q E) s
theorem FnG.mono {P : Program} {w : World} {K : PySem.W.Frag} {mg : Str → Option Value} {base : Heap} {C : CXT} {j k : Nat} {f : Addr} {fd : FuncData} {ps : List Str} {sp : Sp} (F : FnG P w K mg base C j f fd ps sp) (h : j ≤ k) : FnG P w K mg base C k f fd ps sp :=
  ⟨F.len, fun A outer s H args us vs Q E hr => F.run A outer s H args us vs Q E (hr.mono h)⟩
section
variable {X : Cx} {C : CXT} {k : Nat} {f : Addr} {fd : FuncData} {ps : List Str} {sp : Sp} {dvs : List V} {ds : List Value} {E : XK} {x : Str} {p pos : Pos} {e : Expr} {es : List Expr} {t : L2.TA}
theorem runG {pins : List (Addr × Obj)} {σ : L2.St} {H : Hp} {s : Shared} {Q : VK} {us : List Value} {vs : List V} (F : FnG X.prog X.w X.K X.mg X.base C k f fd ps sp) (g : RG k X.A) (hb : Binds X.K fd ps ds) (hd : Vals dvs ds) (hx : Passes C X E) (I : Inv X pins σ H s)
    (r : Vals vs us) (h : sp (vs ++ dvs) H Q E) : wpAny (model X.prog X.w) X.A (call (.ref f) us) (EP X pins σ Q) X.xe s :=
  have r2 : Vals (vs ++ dvs) (us ++ ds) := r.append hd
  wpAny_call (codeAny_mono (F.run X.A X.stack s H ⟨us, []⟩ (us ++ ds) (vs ++ dvs) Q E g I.env0 (hb s us I.kIn (by rw [← r2.length]; exact F.len _ _ _ _ h)) r2 h) fun z s' hq => match z, hq with
    | .error e, hq => hx pins σ H s e s' I hq
    | .ok (.ret u), hq => I.after hq
    | .ok .next, hq => False.elim hq
    | .ok .brk, hq => False.elim hq
    | .ok .cont, hq => False.elim hq)
theorem pe_callG (F : FnG X.prog X.w X.K X.mg X.base C k f fd ps sp) (g : RG k X.A) (hg : Gl X x) (hm : X.mg x = some (.ref f)) (hk : PySem.W.keepIn X.K (.ref f) = true) (hb : Binds X.K fd ps ds) (hd : Vals dvs ds) (hx : Passes C X E) (ha : PA X (e :: es) t)
    (hdb : (x == ("__debug__" : Str)) = false) (he : starEach (e :: es) X.env = (false, eval e X.env) :: starEach es X.env) (hpl : (backTo pos (starEach es X.env)).any (·.1) = false) : PE X (.Call (.Name x p) (e :: es) [] pos) (tCall sp dvs E t) :=
  ⟨fun pins s σ H Q I h => wpAny_Call_Name_kw (ld_glob I hg hm (PySem.W.callWith_K (h₀ := X.base) I.ok.mod.kin hk (thn (ha.run pos pins s σ H _ I h) fun us s1 ⟨vs, H1, I1, r, q⟩ => ⟨I1.kIn, runG F g hb hd hx I1 r q⟩) he hpl) hdb)⟩
theorem pe_callG0 (F : FnG X.prog X.w X.K X.mg X.base C k f fd ps sp) (g : RG k X.A) (hg : Gl X x) (hm : X.mg x = some (.ref f)) (hk : PySem.W.keepIn X.K (.ref f) = true) (hb : Binds X.K fd ps ds) (hd : Vals dvs ds) (hx : Passes C X E)
    (hdb : (x == ("__debug__" : Str)) = false) : PE X (.Call (.Name x p) [] [] pos) (tCall sp dvs E tNil) :=
  ⟨fun pins s σ H Q I h => wpAny_Call_Name_kw (ld_glob I hg hm (PySem.W.callWith_K0 I.kIn hk (runG (us := []) F g hb hd hx I .nil h)) hdb)⟩
end
/-- the rule of a def -/
theorem fnG_of {C : CXT} {P : Program} {w : World} {K : PySem.W.Frag} {mg : Str → Option Value} {base : Heap} {k : Nat} {f : Addr} {name qual : Str} {params : Arguments} {body : List Stmt} {scope : Scope} {dV kV doc pm cdv ct oc : Value} {an od : Option Addr} {osl : Array (Option Value)} {N ps : List Str} {sp : Sp}
    (lk : K.lookup f = some ⟨oc, od, .func (PySem.W.fnOf name qual params body scope dV kV doc pm an cdv ct), osl⟩) (hcd : PySem.W.codeIn K cdv qual = true) (S : FnScope N ps scope) (hlen : ∀ vs H Q E, sp vs H Q E → vs.length = ps.length)
    (hb : ∀ (A : Around) (outer : List Env) (s : Shared) (H : Hp) (vs : List V) (Q : VK) (E : XK), RG k (A.deeper (envOfC qual scope s.heap.objs.size f cdv)) → sp vs H Q E →
      ∃ t, PSs (cxOf C P w K mg base N qual scope f cdv A outer s H E) body t ∧ t { nx := fun _ H' => Q .non H', rt := Q } (start N vs) H) : FnG P w K mg base C (k + 1) f (PySem.W.fnOf name qual params body scope dV kV doc pm an cdv ct) ps sp := by
  refine ⟨hlen, fun A outer s H args us vs Q E g e0 bd rv hsp => ?_⟩
  have kept : ∀ {b : Addr} {o : Obj}, base.get? b = some o → s.heap.get? b = some o := fun e => (e0.bs _ _ e).1
  have Kin : K.In s.heap := e0.mod.kin.keeps fun b o e => kept e
  refine codeAny_call_function g.r.depth (Kin _ _ lk) rfl S.co S.gen rfl (PySem.W.codeRec_of Kin hcd) (bd _ _ _ _ (wpAny_newFunctionEnv_cells S.kind (fun ⟨n, v⟩ hy => ?_) fun env he s1 x => ?_))
  · exact (S.par n (List.of_mem_zip hy).1).imp id fun q => ⟨q, PySem.W.cellsFrom_some _ _ _ (.inl q)⟩
  · cases he
    obtain ⟨t, pt, ht⟩ := hb A outer s H vs Q E (g.deeper _) hsp
    have I0 := inv_start (CX := C) (qual := qual) (f := f) (cd := cdv) (E := E) S g.r.hd e0 (hlen _ _ _ _ hsp) rv x
    refine ⟨(e0.mod.nolimit.keeps fun b o e => kept e).keeps x.toInCall.keep, codeAny_func (wpAny_mono (pt.run [] s1 (start N vs) H _ I0 ht) (fun fl z hz => ?_) fun e z hz => hz)⟩
    match fl, hz with
    | .ret u, ⟨v, σ', H', J, rv', q⟩ => exact ⟨v, H', J.os, J.bare, J.base, J.hok, rv', q⟩
    | .next, ⟨σ', H', J, q⟩ => exact ⟨V.non, H', J.os, J.bare, J.base, J.hok, rfl, q⟩
    | .brk, ⟨_, _, _, q⟩ => exact False.elim q
    | .cont, ⟨_, _, _, q⟩ => exact False.elim q
theorem callerG {k : Nat} (h : Room k callerA) : RG k callerA := ⟨h, rfl⟩
/-! ### a law's call -/
section
variable {P : Program} {w : World} {K : PySem.W.Frag} {mg mb : Str → Option Value} {C : CXT} {k : Nat} {fa a : Addr} {fd : FuncData} {x : Str} {sp : Sp} {s : Shared} {vs : List Value} {ns : List Int}
theorem law_from (KX : K.In s.heap) (hns : s.heap.Ns mainGlobals mg) (hb : s.heap.Ns builtinsNs mb) (hbb : ∀ x : Str, x ≠ "__name__" → mb x = bootBuiltins x) (hlim : s.heap.NoLimit) (hg : s.gens = #[]) (ha : s.heap.get? a = some { cls := .type "list", data := .seq vs.toArray }) (hr : Room k callerA)
    (F : ∀ base : Heap, K.In base → base.Ns mainGlobals mg → FnG P w K mg base C k fa fd [x] sp) (hbind : ∀ (s : Shared) (u : Value), BindsTo s fd ⟨[u], []⟩ [(x, u)]) (hsp : ∀ H : Hp, Only H → SqL K H a (ns.map V.int) → sp [.ref a] H (fun v _ => v = .bl true) fun _ _ _ => False) (hCX : ∀ H e s', C [] H s (fun _ _ _ => False) e s' → False)
    (H : Hp) (hO : Only H) (hS : SqL K H a (ns.map V.int)) (hok : HOk P w H s.heap) (hA : ∀ b, H b ≠ none → b = a) (hK : H a ≠ none → K.lookup a = none) :
    codeAny (model P w) callerA (.call (.ref fa) ⟨[.ref a], []⟩) (fun r z => r = .ok (.ret (.bool true)) ∧ OldK s.heap z.heap ∧ z.os = s.os ∧ AllBare z.gens) s := by
  have hid : ∀ {b : Addr} {o : Obj}, s.heap.get? b = some o → H b = none → (hidT s.heap H).get? b = some o := fun e n => hidT_get e n
  have is_a : ∀ {b : Addr} {u : HO}, H b = some u → b = a := fun {b u} q => hA b fun z => by rw [q] at z; cases z
  have noDict : ∀ {b : Addr} {o : Obj} {es : Array DictEntry} {ep : Nat}, s.heap.get? b = some o → o.data = .dict es ep → H b = none := fun {b o es ep} e d => by
    cases q : H b with
    | none => rfl
    | some u =>
      cases is_a q
      rw [ha] at e; cases e
      have d2 : Data.seq vs.toArray _ = Data.dict es ep := d
      cases d2
  have ns2 : ∀ {b : Addr} {m : Str → Option Value}, s.heap.Ns b m → (hidT s.heap H).Ns b m := fun ⟨o, es, ep, e, d, r⟩ => ⟨o, es, ep, hid e (noDict e d), d, r⟩
  have Kin : K.In (hidT s.heap H) := fun b o e => hid (KX b o e) (by
    cases q : H b with
    | none => rfl
    | some u =>
      cases is_a q
      rw [hK (fun z => by rw [q] at z; cases z)] at e; cases e)
  have M : Mod K mg (hidT s.heap H) := ⟨Kin, ns2 hns, ⟨mb, ns2 hb, hbb⟩, hlim.imp fun mc h => ⟨ns2 h.1, h.2⟩⟩
  have e0 : Env0 P w K mg (hidT s.heap H) callerA [] s H := ⟨rfl, M, fun b o e => of_hidT e, Nat.le_of_eq (hidT_size _ _), trivial, fun b z => (List.not_mem_nil (show b ∈ ([] : List Addr) from z)).elim, hok, .of_eq hg⟩
  refine codeAny_mono ((F _ Kin (ns2 hns)).run callerA [] s H ⟨[.ref a], []⟩ [.ref a] [.ref a] _ _ (callerG hr) e0 (hbind s (.ref a)) (.cons rfl .nil) (hsp H hO hS)) fun r z h => ?_
  match r, h with
  | .error e, h => exact (hCX H e z h).elim
  | .ok .next, h => exact False.elim h
  | .ok .brk, h => exact False.elim h
  | .ok .cont, h => exact False.elim h
  | .ok (.ret u), ⟨v, H', os, bare, un, hok2, rel, q⟩ =>
    have qv : v = .bl true := q
    subst qv
    cases (show u = Value.bool true from rel)
    refine ⟨rfl, OldK.of_keep fun b o e => ?_, os, bare⟩
    rcases hO b with q | ⟨ob, xs, q⟩
    · exact un.keep b o e q (fun z => List.not_mem_nil (show b ∈ ([] : List Addr) from z)) (fun z => List.not_mem_nil z)
    · obtain ⟨e1, _⟩ := hok b _ q
      rw [e] at e1
      cases e1
      exact (hok2 b _ (un.frzs b _ _ q)).1
theorem lawG (KX : K.In s.heap) (hns : s.heap.Ns mainGlobals mg) (hb : s.heap.Ns builtinsNs mb) (hbb : ∀ x : Str, x ≠ "__name__" → mb x = bootBuiltins x) (hlim : s.heap.NoLimit) (hg : s.gens = #[]) (ha : s.heap.get? a = some { cls := .type "list", data := .seq vs.toArray })
    (hi : IntsAre vs ns) (hl : ns.length ≤ sizeLine) (hr : Room k callerA) (F : ∀ base : Heap, K.In base → base.Ns mainGlobals mg → FnG P w K mg base C k fa fd [x] sp) (hbind : ∀ (s : Shared) (u : Value), BindsTo s fd ⟨[u], []⟩ [(x, u)])
    (hsp : ∀ H : Hp, Only H → SqL K H a (ns.map V.int) → sp [.ref a] H (fun v _ => v = .bl true) fun _ _ _ => False) (hCX : ∀ H e s', C [] H s (fun _ _ _ => False) e s' → False) :
    codeAny (model P w) callerA (.call (.ref fa) ⟨[.ref a], []⟩) (fun r z => r = .ok (.ret (.bool true)) ∧ OldK s.heap z.heap ∧ z.os = s.os ∧ AllBare z.gens) s := by
  have rv := vals_ints hi
  cases hk : K.lookup a with
  | some o =>
    have e := KX a o hk
    rw [ha] at e; cases e
    exact law_from KX hns hb hbb hlim hg ha hr F hbind hsp hCX (fun _ => none) (fun _ => .inl rfl) (.inr ⟨_, vs.toArray, _, hk, rfl, rfl, rfl, by rw [List.size_toArray, hi.length]; exact hl, by simpa using rv⟩) (fun b u z => nomatch (show (none : Option HO) = some u from z)) (fun b z => (z rfl).elim) fun z => (z rfl).elim
  | none =>
    let H : Hp := fun b => if b = a then some (.frz { cls := .type "list", data := .seq vs.toArray } (.lst (ns.map V.int))) else none
    have Ha : H a = some (.frz { cls := .type "list", data := .seq vs.toArray } (.lst (ns.map V.int))) := if_pos rfl
    have Hn : ∀ b, b ≠ a → H b = none := fun b n => if_neg n
    refine law_from KX hns hb hbb hlim hg ha hr F hbind hsp hCX H (fun b => ?_) (.inl (.inr ⟨_, Ha⟩)) (fun b u z => ?_) (fun b z => ?_) fun _ => hk
    · exact if h : b = a then .inr (by rw [h]; exact ⟨_, _, Ha⟩) else .inl (Hn b h)
    · by_cases h : b = a
      · subst h
        rw [Ha] at z; cases z
        exact ⟨ha, by rw [List.length_map]; exact hl, vs, _, rv, ha⟩
      · rw [Hn b h] at z; cases z
    · exact Classical.byContradiction fun h => z (Hn b h)
end
theorem walkG {l : PySem.W.OpenLaw} {n k : Nat} {q : Program} {loose : List Str} {XP : (Str → Option Value) → Heap → Prop} {YP : World → Heap → Prop} {d : DefRec} {C : CXT} {x : Str} (hn : l.most = some n) (hn2 : n ≤ sizeLine) (hdf : d.params.defaults = []) (hr : Room k callerA)
    (F : ∀ (w : World) (mg : Str → Option Value) (fa : Addr) (h : Heap), YP w h → h.Ns mainGlobals mg → mg d.name = some (.ref fa) → ∃ (K : PySem.W.Frag) (fd : FuncData) (sp : Sp), K.In h ∧ (∀ (s : Shared) (u : Value), BindsTo s fd ⟨[u], []⟩ [(x, u)]) ∧
      (∀ (H : Hp) (a : Addr) (ns : List Int), ns.length ≤ n → Only H → SqL K H a (ns.map V.int) → sp [.ref a] H (fun v _ => v = .bl true) fun _ _ _ => False) ∧ ∀ base : Heap, K.In base → base.Ns mainGlobals mg → FnG l.prog w K mg base C k fa fd [x] sp)
    (hC : ∀ (H : Hp) (s : Shared) (e : Value) (s' : Shared), C [] H s (fun _ _ _ => False) e s' → False) : PySem.W.WalkO q loose XP YP l.row.toRowW d [] (fun f vs => PySem.call f vs) :=
  Att.attach_call hn hdf fun w s₀ s₁ mg mb fa o pm cd doc a vs ns G Y ho hd hcd hmg hobj hints hlen hg => by
    obtain ⟨K, fd, sp, KX, hb, hsp, hF⟩ := F w mg fa _ Y G.T.g hmg
    exact lawG KX G.T.g G.T.b G.T.builtins G.T.nolimit hg hobj hints (Nat.le_trans hlen hn2) hr hF hb (fun H hO hS => hsp H a ns hlen hO hS) fun H e z => hC H s₁ e z
end Mn

/-! Mn: clean data over the hand layer. -/
namespace Mn
open PySem PySem.Spec PyProof.Rows L2

/-- what is there, and then F -/
@[irreducible] def oth {α : Type} (o : Option α) (F : α → Prop) : Prop := match o with | some x => F x | none => False
theorem oth_some {α : Type} {o : Option α} {x : α} {F : α → Prop} (h : o = some x) (q : F x) : oth o F := by
  unfold oth
  subst h
  exact q
theorem oth_of {α : Type} {o : Option α} {F : α → Prop} (h : oth o F) : ∃ x, o = some x ∧ F x := by
  unfold oth at h
  cases o with
  | none => exact h.elim
  | some x => exact ⟨x, rfl, h⟩
/-- clean data: immutable things are values; ref: a mutable list -/
inductive D where
  | non | bl (b : Bool) | int (i : Int) | str (s : Str) | tup (xs : List D) | lst (xs : List D) | ref (a : Addr) | dct (ks : List Key) (vs : List D) | frz (xs : List D) | clo (f : Addr) (ws : List V) (xs : List D) | exn (a : Addr) (dx : Option Addr) (ns : List Str) (xs : List D) | fn (x : Str)
abbrev Ms := Addr → Prop
abbrev CH := Addr → Option (List D)
/-- a list that the law was handed -/
def FrzL (K : PySem.W.Frag) (H : Hp) (a : Addr) (xs : List V) : Prop := (∃ o, H a = some (.frz o (.lst xs))) ∨
  ∃ (o : Obj) (its : Array Value) (n : Nat), K.lookup a = some o ∧ o.cls = .type "list" ∧ o.dict = none ∧ o.data = .seq its n ∧ its.size ≤ sizeLine ∧ Vals xs its.toList
theorem FrzL.sq {K : PySem.W.Frag} {H : Hp} {a : Addr} {xs : List V} (h : FrzL K H a xs) : SqL K H a xs := by
  rcases h with ⟨o, h⟩ | h
  · exact .inl (.inr ⟨o, h⟩)
  · exact .inr h
/-- a function object: a frozen one whose code object is known, or one of the written part -/
def FnVal (K : PySem.W.Frag) (H : Hp) (f : Addr) : Prop := (∃ o fd c, H f = some (.frz o (.own f)) ∧ o.data = .func fd ∧ fd.code = .ref c ∧ H c = some (LamX.CodeO c fd.qualname)) ∨ K.lookup f ≠ none
/-- the fields of a caught exception -/
def XFs (H : Hp) (dx : Option Addr) (ns : List Str) (vs : List V) : Prop := (dx = none ∧ ns = [] ∧ vs = []) ∨ ∃ p fs, dx = some p ∧ H p = some (.xd fs) ∧ fs.map (·.1) = ns ∧ fs.map (·.2) = vs
mutual
def Rep (K : PySem.W.Frag) (H : Hp) (m : Ms) : D → V → Prop
  | .non, v => v = .non
  | .bl b, v => v = .bl b
  | .int i, v => v = .int i
  | .str s, v => v = .str s
  | .tup xs, v => ∃ p vs, v = .ref p ∧ SqT K H p vs ∧ RepL K H m xs vs
  | .lst xs, v => ∃ p vs, v = .ref p ∧ ¬ m p ∧ H p = some (.lst vs) ∧ RepL K H m xs vs
  | .ref a, v => v = .ref a
  | .dct ks ds, v => ∃ p vs, v = .ref p ∧ ¬ m p ∧ H p = some (.dK (ks.zip vs)) ∧ ks.length = vs.length ∧ RepL K H m ds vs
  | .frz xs, v => ∃ p vs, v = .ref p ∧ FrzL K H p vs ∧ RepL K H m xs vs
  | .clo f ws xs, v => v = .ref f ∧ FnVal K H f ∧ RepL K H m xs ws
  | .exn a dx ns xs, v => v = .ref a ∧ ∃ vs, XFs H dx ns vs ∧ RepL K H m xs vs
  | .fn x, v => v = .ref (He.ga K x)
def RepL (K : PySem.W.Frag) (H : Hp) (m : Ms) : List D → List V → Prop
  | [], vs => vs = []
  | d :: ds, vs => ∃ v r, vs = v :: r ∧ Rep K H m d v ∧ RepL K H m ds r
end
/-- no table of code objects -/
def NT : HO → Prop
  | .tbl _ => False
  | _ => True
theorem nt_of {o : HO} (h : ∀ ps, o ≠ .tbl ps) : NT o := by cases o <;> first | trivial | exact (h _ rfl).elim
theorem nt_ne {o : HO} (h : NT o) : ∀ ps, o ≠ .tbl ps := fun ps z => by subst z; exact h
/-- one step of the world, as far as values see it -/
structure Stp (H : Hp) (m : Ms) (H' : Hp) (m' : Ms) : Prop where
  keep : ∀ p o, H p = some o → NT o → ¬ m p → H' p = some o
  grow : ∀ p, m' p → m p ∨ H p = none
  live : ∀ p o, H p = some o → H' p ≠ none
theorem Stp.refl {H : Hp} {m : Ms} : Stp H m H m := ⟨fun _ _ h _ _ => h, fun _ h => .inl h, fun p o h => by rw [h]; simp⟩
theorem Stp.trans {H H1 H2 : Hp} {m m1 m2 : Ms} (a : Stp H m H1 m1) (b : Stp H1 m1 H2 m2) : Stp H m H2 m2 := by
  refine ⟨fun p o h t n => ?_, fun p h => ?_, fun p o h => ?_⟩
  · refine b.keep p o (a.keep p o h t n) t fun z => ?_
    rcases a.grow p z with y | y
    · exact n y
    · rw [h] at y; cases y
  · rcases b.grow p h with y | y
    · exact a.grow p y
    · by_cases hm : m p
      · exact .inl hm
      · cases e : H p with
        | none => exact .inr rfl
        | some o => exact absurd y (a.live p o e)
  · cases e : H1 p with
    | none => exact absurd e (a.live p o h)
    | some u => exact b.live p u e
/-- mutable things are tracked lists -/
def MutOk (H : Hp) (m : Ms) : Prop := ∀ a, m a → ∃ vs, H a = some (.lst vs)
theorem sqt_step {K : PySem.W.Frag} {H H' : Hp} {m m' : Ms} {p : Addr} {vs : List V} (mo : MutOk H m) (s : Stp H m H' m') (h : SqT K H p vs) : SqT K H' p vs := by
  rcases h with (h | ⟨o, h⟩) | h
  · exact .inl (.inl (s.keep _ _ h trivial fun z => by obtain ⟨w, e⟩ := mo _ z; rw [h] at e; cases e))
  · exact .inl (.inr ⟨o, s.keep _ _ h trivial fun z => by obtain ⟨w, e⟩ := mo _ z; rw [h] at e; cases e⟩)
  · exact .inr h
theorem ls_step {H H' : Hp} {m m' : Ms} {p : Addr} {u : HO} (s : Stp H m H' m') (n : ¬ m p) (h : H p = some u) (t : NT u := by trivial) : H' p = some u ∧ ¬ m' p := by
  refine ⟨s.keep _ _ h t n, fun z => ?_⟩
  rcases s.grow p z with y | y
  · exact n y
  · rw [h] at y; cases y
theorem FnVal.mono {K : PySem.W.Frag} {H H' : Hp} {m m' : Ms} {f : Addr} (mo : MutOk H m) (s : Stp H m H' m') (h : FnVal K H f) : FnVal K H' f := by
  rcases h with ⟨o, fd, c, e1, e2, e3, e4⟩ | h
  · refine .inl ⟨o, fd, c, s.keep _ _ e1 trivial fun z => ?_, e2, e3, s.keep _ _ e4 (nt_of fun ps z => by unfold LamX.CodeO at z; cases z) fun z => ?_⟩
    · obtain ⟨w, e⟩ := mo _ z
      rw [e1] at e; cases e
    · obtain ⟨w, e⟩ := mo _ z
      rw [e4] at e
      unfold LamX.CodeO at e
      cases e
  · exact .inr h
theorem XFs.mono {H H' : Hp} {m m' : Ms} {dx : Option Addr} {ns : List Str} {vs : List V} (mo : MutOk H m) (s : Stp H m H' m') (h : XFs H dx ns vs) : XFs H' dx ns vs := by
  rcases h with h | ⟨p, fs, e1, e2, e3⟩
  · exact .inl h
  · refine .inr ⟨p, fs, e1, s.keep _ _ e2 trivial fun z => ?_, e3⟩
    obtain ⟨w, e⟩ := mo _ z
    rw [e2] at e; cases e
mutual
theorem Rep.mono {K : PySem.W.Frag} {H H' : Hp} {m m' : Ms} (mo : MutOk H m) (s : Stp H m H' m') : ∀ (d : D) (v : V), Rep K H m d v → Rep K H' m' d v
  | .non, v, h => by unfold Rep at h ⊢; exact h
  | .bl _, v, h => by unfold Rep at h ⊢; exact h
  | .int _, v, h => by unfold Rep at h ⊢; exact h
  | .str _, v, h => by unfold Rep at h ⊢; exact h
  | .tup xs, v, h => by
    unfold Rep at h ⊢
    obtain ⟨p, vs, e, q, r⟩ := h
    exact ⟨p, vs, e, sqt_step mo s q, RepL.mono mo s xs vs r⟩
  | .lst xs, v, h => by
    unfold Rep at h ⊢
    obtain ⟨p, vs, e, n, q, r⟩ := h
    obtain ⟨q', n'⟩ := ls_step s n q
    exact ⟨p, vs, e, n', q', RepL.mono mo s xs vs r⟩
  | .ref _, v, h => by unfold Rep at h ⊢; exact h
  | .dct ks ds, v, h => by
    unfold Rep at h ⊢
    obtain ⟨p, vs, e, n, q, l, r⟩ := h
    refine ⟨p, vs, e, fun z => ?_, s.keep _ _ q trivial n, l, RepL.mono mo s ds vs r⟩
    rcases s.grow p z with y | y
    · exact n y
    · rw [q] at y; cases y
  | .frz xs, v, h => by
    unfold Rep at h ⊢
    obtain ⟨p, vs, e, q, r⟩ := h
    refine ⟨p, vs, e, ?_, RepL.mono mo s xs vs r⟩
    rcases q with ⟨o, q⟩ | q
    · exact .inl ⟨o, s.keep _ _ q trivial fun z => by obtain ⟨w, e⟩ := mo _ z; rw [q] at e; cases e⟩
    · exact .inr q
  | .clo f ws xs, v, h => by
    unfold Rep at h ⊢
    exact ⟨h.1, h.2.1.mono mo s, RepL.mono mo s xs ws h.2.2⟩
  | .exn a dx ns xs, v, h => by
    unfold Rep at h ⊢
    obtain ⟨e, vs, q, r⟩ := h
    exact ⟨e, vs, q.mono mo s, RepL.mono mo s xs vs r⟩
  | .fn _, v, h => by unfold Rep at h ⊢; exact h
theorem RepL.mono {K : PySem.W.Frag} {H H' : Hp} {m m' : Ms} (mo : MutOk H m) (s : Stp H m H' m') : ∀ (ds : List D) (vs : List V), RepL K H m ds vs → RepL K H' m' ds vs
  | [], vs, h => by unfold RepL at h ⊢; exact h
  | d :: ds, vs, h => by
    unfold RepL at h ⊢
    obtain ⟨v, r, e, h1, h2⟩ := h
    exact ⟨v, r, e, Rep.mono mo s d v h1, RepL.mono mo s ds r h2⟩
end
theorem RepL.length {K : PySem.W.Frag} {H : Hp} {m : Ms} : ∀ {ds : List D} {vs : List V}, RepL K H m ds vs → ds.length = vs.length
  | [], vs, h => by unfold RepL at h; subst h; rfl
  | d :: ds, vs, h => by
    unfold RepL at h
    obtain ⟨v, r, e, _, h2⟩ := h
    subst e
    rw [List.length_cons, List.length_cons, RepL.length h2]
theorem RepL.get {K : PySem.W.Frag} {H : Hp} {m : Ms} : ∀ {ds : List D} {vs : List V} {i : Nat} {d : D}, RepL K H m ds vs → ds[i]? = some d → ∃ v, vs[i]? = some v ∧ Rep K H m d v
  | [], vs, i, d, h, e => by simp at e
  | d :: ds, vs, 0, d', h, e => by
    unfold RepL at h
    obtain ⟨v, r, rfl, h1, _⟩ := h
    simp at e; subst e
    exact ⟨v, rfl, h1⟩
  | d :: ds, vs, i + 1, d', h, e => by
    unfold RepL at h
    obtain ⟨v, r, rfl, _, h2⟩ := h
    obtain ⟨w, e1, e2⟩ := RepL.get (i := i) h2 (by simpa using e)
    exact ⟨w, by simpa using e1, e2⟩
theorem RepL.append {K : PySem.W.Frag} {H : Hp} {m : Ms} : ∀ {ds es : List D} {vs ws : List V}, RepL K H m ds vs → RepL K H m es ws → RepL K H m (ds ++ es) (vs ++ ws)
  | [], es, vs, ws, h, g => by unfold RepL at h; subst h; exact g
  | d :: ds, es, vs, ws, h, g => by
    unfold RepL at h
    obtain ⟨v, r, rfl, h1, h2⟩ := h
    show RepL K H m (d :: (ds ++ es)) (v :: (r ++ ws))
    unfold RepL
    exact ⟨v, _, rfl, h1, RepL.append h2 g⟩
theorem RepL.one {K : PySem.W.Frag} {H : Hp} {m : Ms} {d : D} {v : V} (h : Rep K H m d v) : RepL K H m [d] [v] := by
  unfold RepL; exact ⟨v, [], rfl, h, by unfold RepL; rfl⟩
theorem RepL.set {K : PySem.W.Frag} {H : Hp} {m : Ms} {d : D} {v : V} (h : Rep K H m d v) : ∀ {ds : List D} {vs : List V} (i : Nat), RepL K H m ds vs → RepL K H m (ds.set i d) (vs.set i v)
  | [], vs, i, g => by unfold RepL at g; subst g; simpa using (show RepL K H m [] [] by unfold RepL; rfl)
  | d' :: ds, vs, 0, g => by
    unfold RepL at g
    obtain ⟨w, r, rfl, _, h2⟩ := g
    show RepL K H m (d :: ds) (v :: r)
    unfold RepL
    exact ⟨v, r, rfl, h, h2⟩
  | d' :: ds, vs, i + 1, g => by
    unfold RepL at g
    obtain ⟨w, r, rfl, h1, h2⟩ := g
    show RepL K H m (d' :: ds.set i d) (w :: r.set i v)
    unfold RepL
    exact ⟨w, _, rfl, h1, RepL.set h i h2⟩
theorem RepL.drop {K : PySem.W.Frag} {H : Hp} {m : Ms} : ∀ {ds : List D} {vs : List V} (n : Nat), RepL K H m ds vs → RepL K H m (ds.drop n) (vs.drop n)
  | ds, vs, 0, h => h
  | [], vs, n + 1, h => by unfold RepL at h; subst h; simpa using (show RepL K H m [] [] by unfold RepL; rfl)
  | d :: ds, vs, n + 1, h => by
    unfold RepL at h
    obtain ⟨v, r, rfl, _, h2⟩ := h
    exact RepL.drop n h2
theorem RepL.take {K : PySem.W.Frag} {H : Hp} {m : Ms} : ∀ {ds : List D} {vs : List V} (n : Nat), RepL K H m ds vs → RepL K H m (ds.take n) (vs.take n)
  | ds, vs, 0, h => by simpa using (show RepL K H m [] [] by unfold RepL; rfl)
  | [], vs, n + 1, h => by unfold RepL at h; subst h; simpa using (show RepL K H m [] [] by unfold RepL; rfl)
  | d :: ds, vs, n + 1, h => by
    unfold RepL at h
    obtain ⟨v, r, rfl, h1, h2⟩ := h
    show RepL K H m (d :: ds.take n) (v :: r.take n)
    unfold RepL
    exact ⟨v, _, rfl, h1, RepL.take n h2⟩
theorem RepL.reverse {K : PySem.W.Frag} {H : Hp} {m : Ms} : ∀ {ds : List D} {vs : List V}, RepL K H m ds vs → RepL K H m ds.reverse vs.reverse
  | [], vs, h => by unfold RepL at h; subst h; simpa using (show RepL K H m [] [] by unfold RepL; rfl)
  | d :: ds, vs, h => by
    unfold RepL at h
    obtain ⟨v, r, rfl, h1, h2⟩ := h
    rw [List.reverse_cons, List.reverse_cons]
    exact RepL.append (RepL.reverse h2) (RepL.one h1)
theorem RepL.nil {K : PySem.W.Frag} {H : Hp} {m : Ms} : RepL K H m [] [] := by unfold RepL; rfl
theorem RepL.cons {K : PySem.W.Frag} {H : Hp} {m : Ms} {d : D} {ds : List D} {v : V} {vs : List V} (h : Rep K H m d v) (g : RepL K H m ds vs) : RepL K H m (d :: ds) (v :: vs) := by unfold RepL; exact ⟨v, vs, rfl, h, g⟩

/-- the tables of the defs' code objects, with the name that their lambdas bear -/
def tabD (K : PySem.W.Frag) (q : Addr × Obj) : Option (Addr × Str) := match q.2.data with
  | .func fd => (match fd.code with
    | .ref c => if PySem.W.codeHdIn K c (He.tabOf K c) = true then some (He.tabOf K c, fd.qualname ++ ".<locals>." ++ "<lambda>") else none
    | _ => none)
  | _ => none
def tabsL (K : PySem.W.Frag) : List (Addr × Str) := K.filterMap (tabD K)
theorem tabs_put {T : List (Addr × Str)} {H : Hp} {a : Addr} {ws : List V} (t : LamX.Tabs T H) (h : H a = none ∨ ∃ vs, H a = some (.lst vs)) : LamX.Tabs T (upd H a (.lst ws)) := fun p hp => by
  obtain ⟨ps, h1, h2, h3⟩ := t p hp
  have ne : ∀ b o, H b = some o → (∀ vs, o ≠ .lst vs) → b ≠ a := fun b o e n z => by
    subst z
    rcases h with h | ⟨vs, h⟩
    · rw [e] at h; cases h
    · rw [e] at h; exact n vs (Option.some.inj h)
  refine ⟨ps, by rw [upd_ne (ne _ _ h1 fun vs z => by cases z)]; exact h1, h2, fun pos cv hc => ?_⟩
  obtain ⟨c, e1, e2⟩ := h3 pos cv hc
  exact ⟨c, e1, by rw [upd_ne (ne _ _ e2 fun vs z => by unfold LamX.CodeO at z; cases z)]; exact e2⟩
/-- the heap's part -/
structure Wd (K : PySem.W.Frag) (H : Hp) (hc : CH) (m : Ms) : Prop where
  tab : LamX.Tabs (tabsL K) H
  mu : MutOk H m
  hm : ∀ a ds, hc a = some ds → m a
  heap : ∀ a ds, hc a = some ds → ∃ vs, H a = some (.lst vs) ∧ RepL K H m ds vs
/-- a def's entry -/
structure En where
  H : Hp
  hc : CH
  m : Ms
/-- how the world lies to the entry -/
structure Ex (K : PySem.W.Frag) (en : En) (H : Hp) (hc : CH) (m : Ms) : Prop extends Wd K H hc m where
  emut : MutOk en.H en.m
  ehm : ∀ a ds, en.hc a = some ds → en.m a
  keep : ∀ p o, en.H p = some o → NT o → en.hc p = none → H p = some o
  grow : ∀ p, m p → en.m p ∨ en.H p = none
  hold : ∀ p, en.m p → en.hc p = none → m p
  hgrow : ∀ p ds, hc p = some ds → en.hc p ≠ none ∨ en.H p = none
  live : ∀ p o, en.H p = some o → H p ≠ none
theorem Ex.refl {K : PySem.W.Frag} {H : Hp} {hc : CH} {m : Ms} (w : Wd K H hc m) : Ex K ⟨H, hc, m⟩ H hc m :=
  ⟨w, w.mu, w.hm, fun _ _ h _ _ => h, fun _ h => .inl h, fun _ h _ => h, fun p ds h => .inl (by show hc p ≠ none; rw [h]; simp), fun p o h => by have h' : H p = some o := h; rw [h']; simp⟩
/-- a callee's world, seen from here -/
theorem Ex.trans {K : PySem.W.Frag} {en : En} {H H' : Hp} {hc hc' : CH} {m m' : Ms} (a : Ex K en H hc m) (b : Ex K ⟨H, hc, m⟩ H' hc' m') : Ex K en H' hc' m' := by
  have nh : ∀ p o, en.H p = some o → en.hc p = none → hc p = none := fun p o h n => by
    cases e : hc p with
    | none => rfl
    | some ds =>
      rcases a.hgrow p ds e with y | y
      · exact absurd n y
      · rw [h] at y; cases y
  refine ⟨b.toWd, a.emut, a.ehm, fun p o h t n => ?_, fun p h => ?_, fun p h n => ?_, fun p ds h => ?_, fun p o h => ?_⟩
  · exact b.keep p o (a.keep p o h t n) t (nh p o h n)
  · rcases b.grow p h with y | y
    · exact a.grow p y
    · cases e : en.H p with
      | none => exact .inr rfl
      | some o => exact absurd y (a.live p o e)
  · refine b.hold p (a.hold p h n) ?_
    obtain ⟨vs, e⟩ := a.emut p h
    exact nh p _ e n
  · rcases b.hgrow p ds h with y | y
    · cases e : hc p with
      | none => exact absurd e y
      | some ds' => exact a.hgrow p ds' e
    · cases e : en.H p with
      | none => exact .inr rfl
      | some o =>
        cases e2 : en.hc p with
        | none => exact absurd (show H p = none from y) (a.live p o e)
        | some ds => exact .inl (by simp)
  · cases e : H p with
    | none => exact absurd e (a.live p o h)
    | some u => exact b.live p u e
theorem Ex.stp {K : PySem.W.Frag} {en : En} {H : Hp} {hc : CH} {m : Ms} (a : Ex K en H hc m) : Stp en.H en.m H m := by
  refine ⟨fun p o h t n => a.keep p o h t ?_, a.grow, a.live⟩
  cases e : en.hc p with
  | none => rfl
  | some ds => exact absurd (a.ehm p ds e) n

/-- a slot: nothing known, a value, a list that this slot alone holds -/
inductive Sl where
  | un | val (d : D) | own (ds : List D)
/-- the state of a def's body -/
structure Rs (K : PySem.W.Frag) (en : En) (σ : L2.St) (H : Hp) (sc : List Sl) (hc : CH) (m : Ms) : Prop extends Ex K en H hc m where
  slot : ∀ (i : Nat) (d : D), sc[i]? = some (Sl.val d) → ∃ v, σ[i]? = some (some v) ∧ Rep K H m d v
  own : ∀ (i : Nat) (ds : List D), sc[i]? = some (Sl.own ds) → ∃ (p : Addr) (vs : List V), σ[i]? = some (some (V.ref p)) ∧ m p ∧ en.H p = none ∧ hc p = none ∧ H p = some (.lst vs) ∧ RepL K H m ds vs
  sep : ∀ (i j : Nat) (ds es : List D) (p : Addr), sc[i]? = some (Sl.own ds) → sc[j]? = some (Sl.own es) → σ[i]? = some (some (V.ref p)) → σ[j]? = some (some (V.ref p)) → i = j
  len : sc.length = σ.length
end Mn

namespace Mn
open PySem PySem.Spec PyProof.Rows L2

/-! ### steps of the state -/
theorem upd_some {H : Hp} {a p : Addr} {o u : HO} (e : H p = some o) : upd H a u p ≠ none := by
  by_cases h : p = a
  · subst h; rw [upd_same]; simp
  · rw [upd_ne h, e]; simp
theorem Stp.same {H H' : Hp} {m : Ms} (h : Same H H') : Stp H m H' m := ⟨fun p o e _ _ => h p o e, fun _ h => .inl h, fun p o e => by rw [h p o e]; simp⟩
theorem Wd.same {K : PySem.W.Frag} {H H' : Hp} {hc : CH} {m : Ms} (w : Wd K H hc m) (h : Same H H') : Wd K H' hc m :=
  ⟨w.tab.ext h, fun a z => let ⟨vs, e⟩ := w.mu a z; ⟨vs, h _ _ e⟩, w.hm, fun a ds e => let ⟨vs, e1, r⟩ := w.heap a ds e; ⟨vs, h _ _ e1, RepL.mono w.mu (.same h) _ _ r⟩⟩
theorem Ex.same {K : PySem.W.Frag} {H H' : Hp} {hc : CH} {m : Ms} (w : Wd K H hc m) (h : Same H H') : Ex K ⟨H, hc, m⟩ H' hc m :=
  ⟨w.same h, w.mu, w.hm, fun p o e _ _ => h p o e, fun _ h => .inl h, fun _ h _ => h, fun p ds e => .inl (by show hc p ≠ none; rw [e]; simp), fun p o e => by rw [h p o e]; simp⟩
theorem Rs.call {K : PySem.W.Frag} {en : En} {σ : L2.St} {H H' : Hp} {sc : List Sl} {hc hc' : CH} {m m' : Ms} (r : Rs K en σ H sc hc m) (x : Ex K ⟨H, hc, m⟩ H' hc' m') : Rs K en σ H' sc hc' m' := by
  have st := x.stp
  refine ⟨r.toEx.trans x, fun i d e => ?_, fun i ds e => ?_, r.sep, r.len⟩
  · obtain ⟨v, e1, q⟩ := r.slot i d e
    exact ⟨v, e1, Rep.mono r.mu st d v q⟩
  · obtain ⟨p, vs, e1, mp, ep, hp, eH, q⟩ := r.own i ds e
    refine ⟨p, vs, e1, x.hold p mp hp, ep, ?_, x.keep p _ eH trivial hp, RepL.mono r.mu st _ _ q⟩
    cases e2 : hc' p with
    | none => rfl
    | some es =>
      rcases x.hgrow p es e2 with y | y
      · exact absurd hp y
      · have y' : H p = none := y
        rw [eH] at y'; cases y'
theorem Rs.same {K : PySem.W.Frag} {en : En} {σ : L2.St} {H H' : Hp} {sc : List Sl} {hc : CH} {m : Ms} (r : Rs K en σ H sc hc m) (h : Same H H') : Rs K en σ H' sc hc m := r.call (Ex.same r.toWd h)

/-- an exception in clean words: its class by the global name, its fields -/
structure Exn where
  cls : Str
  fs : List (Str × D)
abbrev XP := Exn → List Sl → CH → Prop
def RepX (X : Cx) (H : Hp) (m : Ms) (x : Exn) (cls : Value) (d : Option Addr) : Prop :=
  X.mg x.cls = some cls ∧ ((x.fs = [] ∧ d = none) ∨ ∃ dx fs, d = some dx ∧ H dx = some (.xd fs) ∧ fs.map (·.1) = x.fs.map (·.1) ∧ RepL X.K H m (x.fs.map (·.2)) (fs.map (·.2)))
def XOk (X : Cx) (W : WX) (en : En) (E : XP) : Prop := ∀ x sc hc, E x sc hc → ∀ cls d σ H m, Rs X.K en σ H sc hc m → RepX X H m x cls d → W cls d σ H
/-- room for calls; what they may raise is taken -/
structure RT (k : Nat) (X : Cx) (W : WX) : Prop where
  g : RG k X.A
  t : Takes X W
  p : PassesOwn (model X.prog X.w) X.A X.env X.xe
abbrev W0 : WX := fun _ _ _ _ => False
theorem takes0 {X : Cx} : Takes X W0 := fun u s' ⟨_, _, _, _, _, _, _, _, _, _, _, _, _, _, _, _, w⟩ => w.elim
theorem RT.mono {j k : Nat} {X : Cx} {W : WX} (x : RT k X W) (h : j ≤ k) : RT j X W := ⟨x.g.mono h, x.t, x.p⟩
/-- in a comprehension's block: nothing leaves it -/
theorem RT.b {k : Nat} {X : Cx} {W : WX} (x : RT k X W) {s : Shared} {H : Hp} {sc : Scope} {ce : Env} {fp : List Addr} : RT k (X.blk s H sc ce fp) W0 := ⟨x.g, takes0, .never⟩
section
variable {X : Cx} {W : WX} {k : Nat} {f : Addr} {fd : FuncData} {ps : List Str} {sp : Sp} {dvs : List V} {ds : List Value} {x : Str} {p pos : Pos} {e : Expr} {es : List Expr} {t : L2.TA}
theorem runX {pins : List (Addr × Obj)} {σ : L2.St} {H : Hp} {s : Shared} {Q : VK} {us : List Value} {vs : List V} (F : FnG X.prog X.w X.K X.mg X.base (L2.CX X.prog X.w) k f fd ps sp) (g : RT k X W) (hb : Binds X.K fd ps ds) (hd : Vals dvs ds) (I : Inv X pins σ H s)
    (r : Vals vs us) (h : sp (vs ++ dvs) H Q fun cls d H' => W cls d σ H') : wpAny (model X.prog X.w) X.A (call (.ref f) us) (EP X pins σ Q) X.xe s :=
  have r2 : Vals (vs ++ dvs) (us ++ ds) := r.append hd
  wpAny_call (codeAny_mono (F.run X.A X.stack s H ⟨us, []⟩ (us ++ ds) (vs ++ dvs) Q _ g.g I.env0 (hb s us I.kIn (by rw [← r2.length]; exact F.len _ _ _ _ h)) r2 h) fun z s' hq => match z, hq with
    | .error e, hq => g.t e s' (XE.of_call I (fun _ _ _ z => z) hq)
    | .ok (.ret u), hq => I.after hq
    | .ok .next, hq => False.elim hq
    | .ok .brk, hq => False.elim hq
    | .ok .cont, hq => False.elim hq)
theorem pe_callX (F : FnG X.prog X.w X.K X.mg X.base (L2.CX X.prog X.w) k f fd ps sp) (g : RT k X W) (hg : Gl X x) (hm : X.mg x = some (.ref f)) (hk : PySem.W.keepIn X.K (.ref f) = true) (hb : Binds X.K fd ps ds) (hd : Vals dvs ds) (ha : PA X (e :: es) t)
    (hdb : (x == ("__debug__" : Str)) = false) (he : starEach (e :: es) X.env = (false, eval e X.env) :: starEach es X.env) (hpl : (backTo pos (starEach es X.env)).any (·.1) = false) : PE X (.Call (.Name x p) (e :: es) [] pos) (fun σ H Q => t σ H fun vs H1 => sp (vs ++ dvs) H1 Q fun cls d H' => W cls d σ H') :=
  ⟨fun pins s σ H Q I h => wpAny_Call_Name_kw (ld_glob I hg hm (PySem.W.callWith_K (h₀ := X.base) I.ok.mod.kin hk (thn (ha.run pos pins s σ H _ I h) fun us s1 ⟨vs, H1, I1, r, q⟩ => ⟨I1.kIn, runX F g hb hd I1 r q⟩) he hpl) hdb)⟩
theorem pe_callX0 (F : FnG X.prog X.w X.K X.mg X.base (L2.CX X.prog X.w) k f fd ps sp) (g : RT k X W) (hg : Gl X x) (hm : X.mg x = some (.ref f)) (hk : PySem.W.keepIn X.K (.ref f) = true) (hb : Binds X.K fd ps ds) (hd : Vals dvs ds)
    (hdb : (x == ("__debug__" : Str)) = false) : PE X (.Call (.Name x p) [] [] pos) (fun σ H Q => sp ([] ++ dvs) H Q fun cls d H' => W cls d σ H') :=
  ⟨fun pins s σ H Q I h => wpAny_Call_Name_kw (ld_glob I hg hm (PySem.W.callWith_K0 I.kIn hk (runX (us := []) F g hb hd I .nil h)) hdb)⟩
end

/-! ### judgements -/
abbrev CEx := XP → List Sl → CH → (D → CH → Prop) → Prop
abbrev CTx := XP → List Sl → CH → (Bool → CH → Prop) → Prop
abbrev CAx := XP → List Sl → CH → (List D → CH → Prop) → Prop
def RepW (K : PySem.W.Frag) (H : Hp) (m : Ms) : D → V → Prop
  | .lst ds, v => ∃ p vs, v = .ref p ∧ H p = some (.lst vs) ∧ RepL K H m ds vs
  | d, v => Rep K H m d v
theorem Rep.w {K : PySem.W.Frag} {H : Hp} {m : Ms} : ∀ {d : D} {v : V}, Rep K H m d v → RepW K H m d v
  | .non, _, h => h
  | .bl _, _, h => h
  | .int _, _, h => h
  | .str _, _, h => h
  | .tup _, _, h => h
  | .lst _, _, h => by
    unfold Rep at h
    obtain ⟨p, vs, e, _, q, r⟩ := h
    exact ⟨p, vs, e, q, r⟩
  | .ref _, _, h => h
  | .dct _ _, _, h => h
  | .frz _, _, h => h
  | .clo _ _ _, _, h => h
  | .exn _ _ _ _, _, h => h
  | .fn _, _, h => h
/-- a value, or the list that a slot alone holds -/
def RepB (K : PySem.W.Frag) (σ : L2.St) (sc : List Sl) (H : Hp) (m : Ms) (d : D) (v : V) : Prop :=
  Rep K H m d v ∨ ∃ (i : Nat) (ds : List D), sc[i]? = some (Sl.own ds) ∧ d = .lst ds ∧ σ[i]? = some (some v)
theorem RepB.w {K : PySem.W.Frag} {en : En} {σ : L2.St} {sc : List Sl} {H : Hp} {hc : CH} {m : Ms} {d : D} {v : V} (r : Rs K en σ H sc hc m) (h : RepB K σ sc H m d v) : RepW K H m d v := by
  rcases h with h | ⟨i, ds, e1, rfl, e2⟩
  · exact h.w
  · obtain ⟨p, vs, e3, _, _, _, e4, q⟩ := r.own i ds e1
    rw [e2] at e3
    cases e3
    exact ⟨p, vs, rfl, e4, q⟩
theorem RepB.mono {K : PySem.W.Frag} {en : En} {σ : L2.St} {sc : List Sl} {H H' : Hp} {hc : CH} {m m' : Ms} {d : D} {v : V} (r : Rs K en σ H sc hc m) (s : Stp H m H' m') (h : RepB K σ sc H m d v) : RepB K σ sc H' m' d v := by
  rcases h with h | h
  · exact .inl (Rep.mono r.mu s d v h)
  · exact .inr h
def LE (X : Cx) (W : WX) (c : CEx) : TE := fun σ H Q => ∃ en sc hc m E P, Rs X.K en σ H sc hc m ∧ c E sc hc P ∧ XOk X W en E ∧
  ∀ d hc', P d hc' → ∀ v H' m', Ex X.K ⟨H, hc, m⟩ H' hc' m' → Rep X.K H' m' d v → Q v H'
def LB (X : Cx) (W : WX) (c : CEx) : TE := fun σ H Q => ∃ en sc hc m E P, Rs X.K en σ H sc hc m ∧ c E sc hc P ∧ XOk X W en E ∧
  ∀ d hc', P d hc' → ∀ v H' m', Ex X.K ⟨H, hc, m⟩ H' hc' m' → RepB X.K σ sc H' m' d v → Q v H'
def LT (X : Cx) (W : WX) (c : CTx) : TT := fun σ H Q => ∃ en sc hc m E P, Rs X.K en σ H sc hc m ∧ c E sc hc P ∧ XOk X W en E ∧
  ∀ b hc', P b hc' → ∀ H' m', Ex X.K ⟨H, hc, m⟩ H' hc' m' → Q b H'
def LA (X : Cx) (W : WX) (c : CAx) : TA := fun σ H Q => ∃ en sc hc m E P, Rs X.K en σ H sc hc m ∧ c E sc hc P ∧ XOk X W en E ∧
  ∀ ds hc', P ds hc' → ∀ vs H' m', Ex X.K ⟨H, hc, m⟩ H' hc' m' → RepL X.K H' m' ds vs → Q vs H'
structure CE (X : Cx) (W : WX) (e : Expr) (c : CEx) : Prop where
  p : PE X e (LE X W c)
structure CB (X : Cx) (W : WX) (e : Expr) (c : CEx) : Prop where
  p : PE X e (LB X W c)
structure CT (X : Cx) (W : WX) (e : Expr) (c : CTx) : Prop where
  p : PT X e (LT X W c)
structure CA (X : Cx) (W : WX) (es : List Expr) (c : CAx) : Prop where
  p : PA X es (LA X W c)
theorem pe_wk {X : Cx} {e : Expr} {t t' : TE} (h : PE X e t) (g : ∀ σ H Q, t' σ H Q → t σ H Q) : PE X e t' := ⟨fun pins s σ H Q I q => h.run pins s σ H Q I (g σ H Q q)⟩
theorem pt_wk {X : Cx} {e : Expr} {t t' : TT} (h : PT X e t) (g : ∀ σ H Q, t' σ H Q → t σ H Q) : PT X e t' := ⟨fun pins s σ H Q I q => h.run pins s σ H Q I (g σ H Q q)⟩
theorem pa_wk {X : Cx} {e : List Expr} {t t' : TA} (h : PA X e t) (g : ∀ σ H Q, t' σ H Q → t σ H Q) : PA X e t' := ⟨fun pos pins s σ H Q I q => h.run pos pins s σ H Q I (g σ H Q q)⟩
section
variable {X : Cx} {W : WX} {a b e : Expr} {es : List Expr} {ca cb c : CEx} {pos : Pos}
theorem CE.bo (h : CE X W e c) : CB X W e c := ⟨pe_wk h.p fun σ H Q ⟨en, sc, hc, m, E, P, r, k, xo, fin⟩ => ⟨en, sc, hc, m, E, P, r, k, xo, fun d hc' p v H' m' x q => fin d hc' p v H' m' x (.inl q)⟩⟩

/-! ### names, constants -/
def look : List Sl → Nat → Option D
  | [], _ => none
  | .val d :: _, 0 => some d
  | _ :: _, 0 => none
  | _ :: r, n + 1 => look r n
def lookO : List Sl → Nat → Option (List D)
  | [], _ => none
  | .own d :: _, 0 => some d
  | _ :: _, 0 => none
  | _ :: r, n + 1 => lookO r n
theorem look_get : ∀ {sc : List Sl} {i : Nat} {d : D}, look sc i = some d → sc[i]? = some (Sl.val d)
  | [], _, _, h => by cases h
  | .val d' :: r, 0, d, h => by cases h; rfl
  | .un :: r, 0, d, h => by cases h
  | .own _ :: r, 0, d, h => by cases h
  | x :: r, n + 1, d, h => by
    have h' : look r n = some d := by cases x <;> exact h
    simpa using look_get h'
theorem lookO_get : ∀ {sc : List Sl} {i : Nat} {d : List D}, lookO sc i = some d → sc[i]? = some (Sl.own d)
  | [], _, _, h => by cases h
  | .own d' :: r, 0, d, h => by cases h; rfl
  | .un :: r, 0, d, h => by cases h
  | .val _ :: r, 0, d, h => by cases h
  | x :: r, n + 1, d, h => by
    have h' : lookO r n = some d := by cases x <;> exact h
    simpa using lookO_get h'
/-- the name in slot i -/
def cV (i : Nat) : CEx := fun _ sc hc P => match look sc i with | some d => P d hc | none => False
def cC (d : D) : CEx := fun _ _ hc P => P d hc
def cO (i : Nat) : CEx := fun _ sc hc P => match lookO sc i with | some ds => P (.lst ds) hc | none => False
theorem ce_v (i : Nat) {x : Str} (hN : X.N[i]? = some x := by rfl) (hv : Vis X.env.scope x := by first | exact Or.inl rfl | exact Or.inr (Or.inl rfl) | exact Or.inr (Or.inr rfl)) (hd : (x == ("__debug__" : Str)) = false := by decide)
    (hcd : (x == ("__classdict__" : Str)) = false := by decide) : CE X W (.Name x pos) (cV i) := by
  refine ⟨pe_wk (pv i hN hv hd hcd) fun σ H Q ⟨en, sc, hc, m, E, P, r, k, xo, fin⟩ => ?_⟩
  unfold cV at k
  split at k
  · rename_i d e
    obtain ⟨v, e1, q⟩ := r.slot i d (look_get e)
    exact ⟨v, e1, fin d hc k v H m (.refl r.toWd) q⟩
  · exact k.elim
theorem cb_o (i : Nat) {x : Str} (hN : X.N[i]? = some x := by rfl) (hv : Vis X.env.scope x := by first | exact Or.inl rfl | exact Or.inr (Or.inl rfl) | exact Or.inr (Or.inr rfl)) (hd : (x == ("__debug__" : Str)) = false := by decide)
    (hcd : (x == ("__classdict__" : Str)) = false := by decide) : CB X W (.Name x pos) (cO i) := by
  refine ⟨pe_wk (pv i hN hv hd hcd) fun σ H Q ⟨en, sc, hc, m, E, P, r, k, xo, fin⟩ => ?_⟩
  unfold cO at k
  split at k
  · rename_i ds e
    have e' := lookO_get e
    obtain ⟨p, vs, e1, q⟩ := r.own i ds e'
    exact ⟨.ref p, e1, fin _ hc k _ H m (.refl r.toWd) (.inr ⟨i, ds, e', rfl, e1⟩)⟩
  · exact k.elim
theorem ce_c {d : D} {v : V} (h : PE X e (tC v)) (hr : ∀ H m, Rep X.K H m d v) : CE X W e (cC d) :=
  ⟨pe_wk h fun σ H Q ⟨en, sc, hc, m, E, P, r, k, xo, fin⟩ => fin d hc k v H m (.refl r.toWd) (hr H m)⟩
theorem rep_int {K : PySem.W.Frag} {H : Hp} {m : Ms} {i : Int} : Rep K H m (.int i) (.int i) := by unfold Rep; rfl
theorem rep_bl {K : PySem.W.Frag} {H : Hp} {m : Ms} {i : Bool} : Rep K H m (.bl i) (.bl i) := by unfold Rep; rfl
theorem rep_non {K : PySem.W.Frag} {H : Hp} {m : Ms} : Rep K H m .non .non := by unfold Rep; rfl
theorem rep_str {K : PySem.W.Frag} {H : Hp} {m : Ms} {i : Str} : Rep K H m (.str i) (.str i) := by unfold Rep; rfl
theorem ce_i {i : Int} {j : Nat} : CE X W (.Constant (.int i) j pos) (cC (.int i)) := ce_c pe_int fun _ _ => rep_int
theorem ce_b {i : Bool} {j : Nat} : CE X W (.Constant (.bool i) j pos) (cC (.bl i)) := ce_c pe_bl fun _ _ => rep_bl
theorem ce_n {j : Nat} : CE X W (.Constant .none j pos) (cC .non) := ce_c pe_non fun _ _ => rep_non
theorem ce_s {i : Str} {j : Nat} : CE X W (.Constant (.str i) j pos) (cC (.str i)) := ce_c pe_str fun _ _ => rep_str
/-- a module's constant: an int, a text -/
theorem ce_g {x : Str} {d : D} {v : V} {u : Value} (hg : Gl X x) (hm : X.mg x = some u) (r : RelV v u) (hr : ∀ H m, Rep X.K H m d v) (hd : (x == ("__debug__" : Str)) = false := by decide) : CE X W (.Name x pos) (cC d) := ce_c (pe_glob hg hm r hd) hr

/-! ### operations by values -/
abbrev O1 := D → CH → (D → Prop) → Prop
abbrev O2 := D → D → CH → (D → Prop) → Prop
abbrev On := List D → CH → (D → Prop) → Prop
def LV1 (K : PySem.W.Frag) (f : O1) : V → Hp → VK → Prop := fun x H Q => ∃ hc m dx P, Wd K H hc m ∧ RepW K H m dx x ∧ f dx hc P ∧ ∀ d, P d → ∀ v H', Same H H' → Rep K H' m d v → Q v H'
def LV2 (K : PySem.W.Frag) (f : O2) : R2 := fun x y H Q => ∃ hc m dx dy P, Wd K H hc m ∧ RepW K H m dx x ∧ RepW K H m dy y ∧ f dx dy hc P ∧ ∀ d, P d → ∀ v H', Same H H' → Rep K H' m d v → Q v H'
def cOp (f : O2) (ca cb : CEx) : CEx := fun E sc hc P => ca E sc hc fun x hc1 => cb E sc hc1 fun y hc2 => f x y hc2 fun d => P d hc2
def cUn (f : O1) (ca : CEx) : CEx := fun E sc hc P => ca E sc hc fun x hc1 => f x hc1 fun d => P d hc1
theorem op_lift {f : O2} {σ : L2.St} {H : Hp} {Q : VK} (h : LE X W (cOp f ca cb) σ H Q) : LB X W ca σ H fun x H1 => LB X W cb σ H1 fun y H2 => LV2 X.K f x y H2 Q := by
  obtain ⟨en, sc, hc, m, E, P, r, c, xo, fin⟩ := h
  refine ⟨en, sc, hc, m, E, _, r, c, xo, fun dx hc1 hp v H1 m1 x1 q1 => ⟨en, sc, hc1, m1, E, _, r.call x1, hp, xo, fun dy hc2 hp2 w H2 m2 x2 q2 => ⟨hc2, m2, dx, dy, _, x2.toWd, (q1.mono (r.call x1) x2.stp).w ((r.call x1).call x2), q2.w ((r.call x1).call x2), hp2, fun d pd v' H' sm q => ?_⟩⟩⟩
  exact fin d hc2 pd v' H' m2 (x1.trans (x2.trans (Ex.same x2.toWd sm))) q
theorem un_lift {f : O1} {σ : L2.St} {H : Hp} {Q : VK} (h : LE X W (cUn f ca) σ H Q) : LB X W ca σ H fun x H1 => LV1 X.K f x H1 Q := by
  obtain ⟨en, sc, hc, m, E, P, r, c, xo, fin⟩ := h
  refine ⟨en, sc, hc, m, E, _, r, c, xo, fun dx hc1 hp v H1 m1 x1 q1 => ⟨hc1, m1, dx, _, x1.toWd, q1.w (r.call x1), hp, fun d pd v' H' sm q => ?_⟩⟩
  exact fin d hc1 pd v' H' m1 (x1.trans (Ex.same x1.toWd sm)) q
theorem ce_op {op : Operator} {f : O2} (ho : OpR X (binaryOp op) (LV2 X.K f)) (ha : CB X W a ca) (hb : CB X W b cb) : CE X W (.BinOp a op b pos) (cOp f ca cb) :=
  ⟨pe_wk (pe_op ho ha.p hb.p) fun σ H Q h => op_lift h⟩
theorem ce_un {op : UnaryOp} {f : O1} (ho : UnR X (unaryOp op) (LV1 X.K f)) (ha : CB X W a ca) : CE X W (.UnaryOp op a pos) (cUn f ca) :=
  ⟨pe_wk (pe_un ho ha.p) fun σ H Q h => un_lift h⟩
theorem ce_cmp {op : CmpOp} {f : O2} (ho : OpR X (compareOp op) (LV2 X.K f)) (ha : CB X W a ca) (hb : CB X W b cb) (hm : behindInMarks op b = false := by first | exact nomark _ | rfl) : CE X W (.Compare a [op] [b] pos) (cOp f ca cb) :=
  ⟨pe_wk (pe_cmpR ho ha.p hb.p hm) fun σ H Q h => op_lift h⟩
/-- an expression that gives a bool, as a test -/
def cT (c : CEx) : CTx := fun E sc hc P => c E sc hc fun d hc' => match d with | .bl b => P b hc' | _ => False
theorem t_lift {σ : L2.St} {H : Hp} {Q : Bool → Hp → Prop} (h : LT X W (cT c) σ H Q) : LE X W c σ H fun x H1 => ∃ k, x = .bl k ∧ Q k H1 := by
  obtain ⟨en, sc, hc, m, E, P, r, k, xo, fin⟩ := h
  refine ⟨en, sc, hc, m, E, _, r, k, xo, fun d hc1 hp v H1 m1 x1 q1 => ?_⟩
  cases d <;> try exact hp.elim
  unfold Rep at q1
  exact ⟨_, q1, fin _ hc1 hp H1 m1 x1⟩
theorem ct_cmp {op : CmpOp} {f : O2} (ho : OpR X (compareOp op) (LV2 X.K f)) (ha : CB X W a ca) (hb : CB X W b cb) (hm : behindInMarks op b = false := by first | exact nomark _ | rfl) : CT X W (.Compare a [op] [b] pos) (cT (cOp f ca cb)) :=
  ⟨pt_wk (pt_cmpR ho ha.p hb.p hm) fun σ H Q h => by
    obtain ⟨en, sc, hc, m, E, P, r, c, xo, fin⟩ := t_lift h
    exact op_lift ⟨en, sc, hc, m, E, P, r, c, xo, fin⟩⟩
theorem ct_e (h : CE X W e c) (he : ∀ whole, isTrue e X.env whole = (do let v ← whole; standAt e.pos; holding [v] (truthy v)) := by intro _; rfl) : CT X W e (cT c) :=
  ⟨pt_wk (pt_val h.p he) fun σ H Q h => t_lift h⟩
end
end Mn

namespace Mn
open PySem PySem.Spec PyProof.Rows L2
theorem same_upd {H : Hp} {p : Addr} {o : HO} (h : H p = none) : Same H (upd H p o) := fun b x e => by
  rw [upd_ne (ne_of_none e h)]
  exact e
theorem rep_lst {K : PySem.W.Frag} {H : Hp} {m : Ms} {p : Addr} {ds : List D} {vs : List V} (w : MutOk H m) (n : H p = none) (r : RepL K H m ds vs) : Rep K (upd H p (.lst vs)) m (.lst ds) (.ref p) := by
  unfold Rep
  refine ⟨p, vs, rfl, fun z => ?_, upd_same, RepL.mono w (.same (same_upd n)) _ _ r⟩
  obtain ⟨vs, e⟩ := w p z
  rw [n] at e; cases e
theorem rep_tup {K : PySem.W.Frag} {H : Hp} {m : Ms} {p : Addr} {ds : List D} {vs : List V} (w : MutOk H m) (n : H p = none) (r : RepL K H m ds vs) : Rep K (upd H p (.tup vs)) m (.tup ds) (.ref p) := by
  unfold Rep
  exact ⟨p, vs, rfl, .inl (.inl upd_same), RepL.mono w (.same (same_upd n)) _ _ r⟩
theorem rep_same {K : PySem.W.Frag} {H H' : Hp} {m : Ms} {d : D} {v : V} (w : MutOk H m) (s : Same H H') (h : Rep K H m d v) : Rep K H' m d v := Rep.mono w (.same s) _ _ h

section
variable {X : Cx}
/-! ### +, -, * .. -/
def addD : O2
  | .int i, .int j, _, P => P (.int (i + j))
  | .str x, .str y, _, P => x.length + y.length ≤ sizeLine ∧ P (.str (x ++ y))
  | .lst xs, .lst ys, _, P => xs.length + ys.length ≤ sizeLine ∧ P (.lst (xs ++ ys))
  | .tup xs, .tup ys, _, P => xs.length + ys.length ≤ sizeLine ∧ P (.tup (xs ++ ys))
  | .ref a, .lst ys, hc, P => oth (hc a) fun xs => xs.length + ys.length ≤ sizeLine ∧ P (.lst (xs ++ ys))
  | .lst xs, .ref a, hc, P => oth (hc a) fun ys => xs.length + ys.length ≤ sizeLine ∧ P (.lst (xs ++ ys))
  | _, _, _, _ => False
theorem op_addD : OpR X (binaryOp .Add) (LV2 X.K addD) := by
  intro pins s σ H x y v u Q I rx ry h
  obtain ⟨hc, m, dx, dy, P, w, h1, h2, f, fin⟩ := h
  cases dx <;> cases dy <;> try exact f.elim
  · unfold RepW Rep at h1 h2
    subst h1; subst h2
    exact op_add pins s σ H _ _ v u Q I rx ry ⟨_, _, rfl, rfl, fin _ f _ _ (.refl H) rep_int⟩
  · unfold RepW Rep at h1 h2
    subst h1; subst h2
    exact op_add_str pins s σ H _ _ v u Q I rx ry ⟨_, _, rfl, rfl, f.1, fin _ f.2 _ _ (.refl H) rep_str⟩
  · rename_i xs ys
    unfold RepW Rep at h1 h2
    obtain ⟨p, vs, rfl, q1, r1⟩ := h1
    obtain ⟨p2, vs2, rfl, q2, r2⟩ := h2
    refine op_catA pins s σ H _ _ v u Q I rx ry ⟨p, p2, vs, vs2, rfl, rfl, q1, q2, by rw [← r1.length, ← r2.length]; exact f.1, fun e => ?_, fun _ e => ?_, fun _ _ q n => ?_⟩
    · subst e
      have := r1.length
      have e0 : xs = [] := List.length_eq_zero_iff.mp this
      subst e0
      exact fin _ f.2 _ _ (.refl H) (by unfold Rep; exact ⟨p2, vs2, rfl, q2, r2⟩)
    · subst e
      have := r2.length
      have e0 : ys = [] := List.length_eq_zero_iff.mp this
      subst e0
      exact fin _ f.2 _ _ (.refl H) (by rw [List.append_nil]; unfold Rep; exact ⟨p, vs, rfl, q1, r1⟩)
    · exact fin _ f.2 _ _ (same_upd n) (rep_tup w.mu n (r1.append r2))
  · rename_i xs ys
    unfold RepW at h1 h2
    obtain ⟨p, vs, rfl, q1, r1⟩ := h1
    obtain ⟨p2, vs2, rfl, q2, r2⟩ := h2
    exact op_cat pins s σ H _ _ v u Q I rx ry ⟨p, p2, vs, vs2, rfl, rfl, q1, q2, by rw [← r1.length, ← r2.length]; exact f.1, fun q n => fin _ f.2 _ _ (same_upd n) (rep_lst w.mu n (r1.append r2))⟩
  · unfold RepW at h1 h2
    unfold Rep at h2
    obtain ⟨p, vs, rfl, q1, r1⟩ := h1
    subst h2
    obtain ⟨zs, e, lz, f⟩ := oth_of f
    obtain ⟨ws, q2, r2⟩ := w.heap _ _ e
    exact op_cat pins s σ H _ _ v u Q I rx ry ⟨p, _, vs, ws, rfl, rfl, q1, q2, by rw [← r1.length, ← r2.length]; exact lz, fun q n => fin _ f _ _ (same_upd n) (rep_lst w.mu n (r1.append r2))⟩
  · unfold RepW at h1 h2
    unfold Rep at h1
    obtain ⟨p, vs, rfl, q1, r1⟩ := h2
    subst h1
    obtain ⟨zs, e, lz, f⟩ := oth_of f
    obtain ⟨ws, q2, r2⟩ := w.heap _ _ e
    exact op_cat pins s σ H _ _ v u Q I rx ry ⟨_, p, ws, vs, rfl, rfl, q2, q1, by rw [← r1.length, ← r2.length]; exact lz, fun q n => fin _ f _ _ (same_upd n) (rep_lst w.mu n (r2.append r1))⟩
/-- ints in, an int out, under C -/
def intD (C : Int → Int → Prop) (g : Int → Int → Int) : O2
  | .int i, .int j, _, P => C i j ∧ P (.int (g i j))
  | _, _, _, _ => False
def intD0 (g : Int → Int → Int) : O2
  | .int i, .int j, _, P => P (.int (g i j))
  | _, _, _, _ => False
theorem op_intD {f : Value → Value → Sem Value} {C : Int → Int → Prop} {g : Int → Int → Int} (ho : OpR X f (rI C fun i j => .int (g i j))) : OpR X f (LV2 X.K (intD C g)) := by
  intro pins s σ H x y v u Q I rx ry h
  obtain ⟨hc, m, dx, dy, P, w, h1, h2, f, fin⟩ := h
  cases dx <;> cases dy <;> try exact f.elim
  unfold RepW Rep at h1 h2
  subst h1; subst h2
  exact ho pins s σ H _ _ v u Q I rx ry ⟨_, _, rfl, rfl, f.1, fin _ f.2 _ _ (.refl H) rep_int⟩
theorem op_intD0 {f : Value → Value → Sem Value} {g : Int → Int → Int} (ho : OpR X f (rI0 fun i j => .int (g i j))) : OpR X f (LV2 X.K (intD0 g)) := by
  intro pins s σ H x y v u Q I rx ry h
  obtain ⟨hc, m, dx, dy, P, w, h1, h2, f, fin⟩ := h
  cases dx <;> cases dy <;> try exact f.elim
  unfold RepW Rep at h1 h2
  subst h1; subst h2
  exact ho pins s σ H _ _ v u Q I rx ry ⟨_, _, rfl, rfl, fin _ f _ _ (.refl H) rep_int⟩
abbrev subD : O2 := intD0 fun i j => i - j
theorem op_subD : OpR X (binaryOp .Sub) (LV2 X.K subD) := op_intD0 op_sub
/-- the bits of both factors -/
def MulOk (i j : Int) : Prop := IntMulOk i j
theorem mulOk {i j : Int} (a b : Nat) (ha : i.natAbs < 2 ^ a) (hb : j.natAbs < 2 ^ b) (h : a + b ≤ 134217728) : MulOk i j := (mulx_ok ha hb h).ok
theorem mulOk_l {i j : Int} (h : -(2 ^ 64) < i ∧ i < 2 ^ 64) : MulOk i j := CMul.ok (.inl h)
theorem mulOk_r {i j : Int} (h : -(2 ^ 64) < j ∧ j < 2 ^ 64) : MulOk i j := CMul.ok (.inr h)
theorem op_mulI : OpR X (binaryOp .Mult) (rI MulOk fun i j => .int (i * j)) := opI fun _ _ _ _ _ _ _ hc q => mul_int q hc
def mulD : O2
  | .int i, .int j, _, P => MulOk i j ∧ P (.int (i * j))
  | .lst xs, .int k, _, P => (-(2 ^ 63) ≤ k ∧ k < 2 ^ 63 ∧ xs.length * k.toNat ≤ sizeLine) ∧ P (.lst (List.replicate k.toNat xs).flatten)
  | .tup xs, .int k, _, P => (xs ≠ [] ∧ 2 ≤ k ∧ k ≤ 1000 ∧ xs.length ≤ 1000) ∧ P (.tup (List.replicate k.toNat xs).flatten)
  | _, _, _, _ => False
theorem RepL.rep {K : PySem.W.Frag} {H : Hp} {m : Ms} {ds : List D} {vs : List V} (h : RepL K H m ds vs) : ∀ n : Nat, RepL K H m (List.replicate n ds).flatten (List.replicate n vs).flatten
  | 0 => RepL.nil
  | n + 1 => by
    rw [List.replicate_succ, List.replicate_succ, List.flatten_cons, List.flatten_cons]
    exact h.append (RepL.rep h n)
theorem op_mulD : OpR X (binaryOp .Mult) (LV2 X.K mulD) := by
  intro pins s σ H x y v u Q I rx ry h
  obtain ⟨hc, m, dx, dy, P, w, h1, h2, f, fin⟩ := h
  cases dx <;> cases dy <;> try exact f.elim
  · unfold RepW Rep at h1 h2
    subst h1; subst h2
    exact op_mulI pins s σ H _ _ v u Q I rx ry ⟨_, _, rfl, rfl, f.1, fin _ f.2 _ _ (.refl H) rep_int⟩
  · unfold RepW Rep at h1 h2
    obtain ⟨p, vs, rfl, q1, r1⟩ := h1
    subst h2
    exact op_repT pins s σ H _ _ v u Q I rx ry ⟨p, _, vs, rfl, rfl, q1, fun e => f.1.1 (by
      have l := r1.length
      rw [e] at l
      exact List.length_eq_zero_iff.mp l), f.1.2.1, f.1.2.2.1, by rw [← r1.length]; exact f.1.2.2.2, fun q n => fin _ f.2 _ _ (same_upd n) (rep_tup w.mu n (r1.rep _))⟩
  · unfold RepW at h1 h2
    unfold Rep at h2
    obtain ⟨p, vs, rfl, q1, r1⟩ := h1
    subst h2
    exact op_rep pins s σ H _ _ v u Q I rx ry ⟨p, _, vs, rfl, rfl, q1, f.1.1, f.1.2.1, by rw [← r1.length]; exact f.1.2.2, fun q n => fin _ f.2 _ _ (same_upd n) (rep_lst w.mu n (r1.rep _))⟩
/-- the divisor is not 0, and C's own division does it -/
def DivOk (i j : Int) : Prop := 0 < j ∧ Builtin.divisionGoesByPylong i j = false
theorem divOk {i j : Int} (b : Nat) (h : 0 < j) (hb : j.natAbs < 2 ^ b) (h9 : b ≤ 9000) : DivOk i j := by
  by_cases hb0 : b = 0
  · subst hb0
    have : j.natAbs < 1 := by simpa using hb
    omega
  · exact ⟨h, PyProof.noPylong_of_log2 (Nat.lt_of_lt_of_le (PySem.Flt.log2_lt_of (by omega) hb) h9)⟩
theorem op_fdivI : OpR X (binaryOp .FloorDiv) (rI DivOk fun i j => .int (i / j)) := opI fun i j _ _ _ _ _ hc q => by
  have h1 : (0 : Int) < j := hc.1
  exact floordiv_int (by omega) (by rw [Int.fdiv_eq_ediv_of_nonneg i (by omega)]; exact q) (.inl hc.2)
abbrev fdivD : O2 := intD DivOk fun i j => i / j
theorem op_fdivD : OpR X (binaryOp .FloorDiv) (LV2 X.K fdivD) := op_intD op_fdivI
abbrev modD : O2 := intD (fun _ j => 0 < j) fun i j => i % j
theorem op_modD : OpR X (binaryOp .Mod) (LV2 X.K modD) := op_intD op_mod
abbrev powD : O2 := intD CPow fun i j => i ^ j.toNat
theorem op_powD : OpR X (binaryOp .Pow) (LV2 X.K powD) := op_intD op_pow
abbrev shlD : O2 := intD CShl fun i j => i * 2 ^ j.toNat
theorem op_shlD : OpR X (binaryOp .LShift) (LV2 X.K shlD) := op_intD op_shlW
abbrev shrD : O2 := intD (fun _ j => 0 ≤ j) fun i j => i / 2 ^ j.toNat
theorem op_shrD : OpR X (binaryOp .RShift) (LV2 X.K shrD) := op_intD op_shr
abbrev andD : O2 := intD0 Builtin.bitAnd
theorem op_andD : OpR X (binaryOp .BitAnd) (LV2 X.K andD) := op_intD0 op_and
abbrev orD : O2 := intD0 Builtin.bitOr
theorem op_orD : OpR X (binaryOp .BitOr) (LV2 X.K orD) := op_intD0 op_or
def negD : O1
  | .int i, _, P => P (.int (-i))
  | _, _, _ => False
theorem un_negD : UnR X (unaryOp .USub) (LV1 X.K negD) := by
  intro pins s σ H x v Q I rx h
  obtain ⟨hc, m, dx, P, w, h1, f, fin⟩ := h
  cases dx <;> try exact f.elim
  unfold RepW Rep at h1
  subst h1
  exact un_neg pins s σ H _ v Q I rx ⟨_, rfl, fin _ f _ _ (.refl H) rep_int⟩
end
end Mn

namespace Mn
open PySem PySem.Spec PyProof.Rows L2
/-! ### data without mutable things -/
mutual
def toPy : D → Option PyData
  | .non => some .none
  | .bl b => some (.bool b)
  | .int i => some (.int i)
  | .str s => some (.str s)
  | .tup xs => (toPyL xs).map .tuple
  | .lst xs => (toPyL xs).map .list
  | .ref _ => none
  | .dct _ _ => none
  | .frz _ => none
  | .clo _ _ _ => none
  | .exn _ _ _ _ => none
  | .fn _ => none
def toPyL : List D → Option (List PyData)
  | [] => some []
  | d :: ds => match toPy d, toPyL ds with
    | some p, some ps => some (p :: ps)
    | _, _ => none
end
mutual
theorem dp_of {K : PySem.W.Frag} {H : Hp} {m : Ms} : ∀ (d : D) (v : V) (p : PyData), toPy d = some p → Rep K H m d v → Dp K H v p
  | .non, v, p, e, h => by unfold toPy at e; unfold Rep at h; cases e; subst h; exact .non
  | .bl _, v, p, e, h => by unfold toPy at e; unfold Rep at h; cases e; subst h; exact .bl _
  | .int _, v, p, e, h => by unfold toPy at e; unfold Rep at h; cases e; subst h; exact .int _
  | .str _, v, p, e, h => by unfold toPy at e; unfold Rep at h; cases e; subst h; exact .str _
  | .tup xs, v, p, e, h => by
    unfold toPy at e; unfold Rep at h
    obtain ⟨a, vs, rfl, q, r⟩ := h
    cases e2 : toPyL xs with
    | none => rw [e2] at e; cases e
    | some ps => rw [e2] at e; cases e; exact .tup q (dpl_of xs vs ps e2 r)
  | .lst xs, v, p, e, h => by
    unfold toPy at e; unfold Rep at h
    obtain ⟨a, vs, rfl, _, q, r⟩ := h
    cases e2 : toPyL xs with
    | none => rw [e2] at e; cases e
    | some ps => rw [e2] at e; cases e; exact .lst (.of q) (dpl_of xs vs ps e2 r)
  | .ref _, v, p, e, h => by unfold toPy at e; cases e
  | .dct _ _, v, p, e, h => by unfold toPy at e; cases e
  | .frz _, v, p, e, h => by unfold toPy at e; cases e
  | .clo _ _ _, v, p, e, h => by unfold toPy at e; cases e
  | .exn _ _ _ _, v, p, e, h => by unfold toPy at e; cases e
  | .fn _, v, p, e, h => by unfold toPy at e; cases e
theorem dpl_of {K : PySem.W.Frag} {H : Hp} {m : Ms} : ∀ (ds : List D) (vs : List V) (ps : List PyData), toPyL ds = some ps → RepL K H m ds vs → DpAll K H vs ps
  | [], vs, ps, e, h => by unfold toPyL at e; unfold RepL at h; cases e; subst h; exact .nil
  | d :: ds, vs, ps, e, h => by
    unfold toPyL at e; unfold RepL at h
    obtain ⟨v, r, rfl, h1, h2⟩ := h
    cases e1 : toPy d with
    | none => rw [e1] at e; cases e
    | some p =>
      cases e2 : toPyL ds with
      | none => rw [e1, e2] at e; cases e
      | some ps' => rw [e1, e2] at e; cases e; exact .cons (dp_of d v p e1 h1) (dpl_of ds r ps' e2 h2)
end
theorem dpw_of {K : PySem.W.Frag} {H : Hp} {m : Ms} : ∀ (d : D) (v : V) (p : PyData), toPy d = some p → RepW K H m d v → Dp K H v p
  | .lst xs, v, p, e, h => by
    unfold toPy at e; unfold RepW at h
    obtain ⟨a, vs, rfl, q, r⟩ := h
    cases e2 : toPyL xs with
    | none => rw [e2] at e; cases e
    | some ps => rw [e2] at e; cases e; exact .lst (.of q) (dpl_of xs vs ps e2 r)
  | .non, v, p, e, h => dp_of (m := m) _ v p e h
  | .bl _, v, p, e, h => dp_of (m := m) _ v p e h
  | .int _, v, p, e, h => dp_of (m := m) _ v p e h
  | .str _, v, p, e, h => dp_of (m := m) _ v p e h
  | .tup xs, v, p, e, h => dp_of (m := m) _ v p e h
  | .ref _, v, p, e, h => by unfold toPy at e; cases e
  | .dct _ _, v, p, e, h => by unfold toPy at e; cases e
  | .frz _, v, p, e, h => by unfold toPy at e; cases e
  | .clo _ _ _, v, p, e, h => by unfold toPy at e; cases e
  | .exn _ _ _ _, v, p, e, h => by unfold toPy at e; cases e
  | .fn _, v, p, e, h => by unfold toPy at e; cases e
/-- == -/
def eqG (neg : Bool) (x y : D) (P : D → Prop) : Prop := ∃ p q, toPy x = some p ∧ toPy y = some q ∧ SeqAt.shaped p = true ∧ SeqAt.shaped q = true ∧ P (.bl (if neg then !PyData.eqv p q else PyData.eqv p q))
def eqD : O2 := fun x y _ P => match x, y with
  | .int i, .int j => P (.bl (decide (i = j)))
  | .str a, .str b => P (.bl (decide (a = b)))
  | .non, .non => P (.bl true)
  | x, y => eqG false x y P
def neD : O2 := fun x y _ P => match x, y with
  | .int i, .int j => P (.bl (!decide (i = j)))
  | .str a, .str b => P (.bl (!decide (a = b)))
  | .non, .non => P (.bl false)
  | x, y => eqG true x y P
def cmpD (f : Int → Int → Bool) : O2
  | .int i, .int j, _, P => P (.bl (f i j))
  | _, _, _, _ => False
abbrev ltD : O2 := cmpD fun i j => decide (i < j)
abbrev leD : O2 := cmpD fun i j => decide (i ≤ j)
abbrev gtD : O2 := cmpD fun i j => decide (j < i)
abbrev geD : O2 := cmpD fun i j => decide (j ≤ i)
/-- x is None -/
def isND : O2
  | .non, .non, _, P => P (.bl true)
  | .ref _, .non, _, P => P (.bl false)
  | .lst _, .non, _, P => P (.bl false)
  | .tup _, .non, _, P => P (.bl false)
  | .dct _ _, .non, _, P => P (.bl false)
  | .int _, .non, _, P => P (.bl false)
  | .bl _, .non, _, P => P (.bl false)
  | .str _, .non, _, P => P (.bl false)
  | _, _, _, _ => False
def notND : O2
  | .non, .non, _, P => P (.bl false)
  | .ref _, .non, _, P => P (.bl true)
  | .lst _, .non, _, P => P (.bl true)
  | .tup _, .non, _, P => P (.bl true)
  | .dct _ _, .non, _, P => P (.bl true)
  | .int _, .non, _, P => P (.bl true)
  | .bl _, .non, _, P => P (.bl true)
  | .str _, .non, _, P => P (.bl true)
  | _, _, _, _ => False
theorem repw_nn {K : PySem.W.Frag} {H : Hp} {m : Ms} : ∀ {d : D} {v : V}, RepW K H m d v → d ≠ .non → v ≠ .non
  | .non, _, _, hd => absurd rfl hd
  | .bl _, v, h, _ => by unfold RepW Rep at h; rw [h]; exact fun e => nomatch e
  | .int _, v, h, _ => by unfold RepW Rep at h; rw [h]; exact fun e => nomatch e
  | .str _, v, h, _ => by unfold RepW Rep at h; rw [h]; exact fun e => nomatch e
  | .tup _, v, h, _ => by unfold RepW Rep at h; obtain ⟨p, vs, e, _⟩ := h; rw [e]; exact fun e => nomatch e
  | .lst _, v, h, _ => by unfold RepW at h; obtain ⟨p, vs, e, _⟩ := h; rw [e]; exact fun e => nomatch e
  | .ref _, v, h, _ => by unfold RepW Rep at h; rw [h]; exact fun e => nomatch e
  | .dct _ _, v, h, _ => by unfold RepW Rep at h; obtain ⟨p, vs, e, _⟩ := h; rw [e]; exact fun e => nomatch e
  | .frz _, v, h, _ => by unfold RepW Rep at h; obtain ⟨p, vs, e, _⟩ := h; rw [e]; exact fun e => nomatch e
  | .clo _ _ _, v, h, _ => by unfold RepW Rep at h; rw [h.1]; exact fun e => nomatch e
  | .exn _ _ _ _, v, h, _ => by unfold RepW Rep at h; rw [h.1]; exact fun e => nomatch e
  | .fn _, v, h, _ => by unfold RepW Rep at h; rw [h]; exact fun e => nomatch e
section
variable {X : Cx}
theorem op_cmpD {f : Value → Value → Sem Value} {g : Int → Int → Bool} (ho : OpR X f (rI0 fun i j => .bl (g i j))) : OpR X f (LV2 X.K (cmpD g)) := by
  intro pins s σ H x y v u Q I rx ry h
  obtain ⟨hc, m, dx, dy, P, w, h1, h2, f, fin⟩ := h
  cases dx <;> cases dy <;> try exact f.elim
  unfold RepW Rep at h1 h2
  subst h1; subst h2
  exact ho pins s σ H _ _ v u Q I rx ry ⟨_, _, rfl, rfl, fin _ f _ _ (.refl H) rep_bl⟩
theorem op_ltD : OpR X (compareOp .Lt) (LV2 X.K ltD) := op_cmpD op_lt
theorem op_leD : OpR X (compareOp .LtE) (LV2 X.K leD) := op_cmpD op_le
theorem op_gtD : OpR X (compareOp .Gt) (LV2 X.K gtD) := op_cmpD op_gt
theorem op_geD : OpR X (compareOp .GtE) (LV2 X.K geD) := op_cmpD op_ge
theorem op_isND : OpR X (compareOp .Is) (LV2 X.K isND) := by
  intro pins s σ H x y v u Q I rx ry h
  obtain ⟨hc, m, dx, dy, P, w, h1, h2, f, fin⟩ := h
  have hy : dy = .non := by cases dy <;> first | rfl | (cases dx <;> exact f.elim)
  subst hy
  have e2 : y = .non := by unfold RepW Rep at h2; exact h2
  subst e2
  refine op_isN pins s σ H _ _ v u Q I rx ry ⟨rfl, ?_⟩
  by_cases hx : dx = .non
  · subst hx
    unfold RepW Rep at h1
    subst h1
    exact fin _ f _ _ (.refl H) rep_bl
  · rw [decide_eq_false (repw_nn h1 hx)]
    cases dx <;> first | exact f.elim | exact absurd rfl hx | exact fin _ f _ _ (.refl H) rep_bl
theorem op_notND : OpR X (compareOp .IsNot) (LV2 X.K notND) := by
  intro pins s σ H x y v u Q I rx ry h
  obtain ⟨hc, m, dx, dy, P, w, h1, h2, f, fin⟩ := h
  have hy : dy = .non := by cases dy <;> first | rfl | (cases dx <;> exact f.elim)
  subst hy
  have e2 : y = .non := by unfold RepW Rep at h2; exact h2
  subst e2
  refine op_notN pins s σ H _ _ v u Q I rx ry ⟨rfl, ?_⟩
  by_cases hx : dx = .non
  · subst hx
    unfold RepW Rep at h1
    subst h1
    exact fin _ f _ _ (.refl H) rep_bl
  · rw [decide_eq_false (repw_nn h1 hx)]
    cases dx <;> first | exact f.elim | exact absurd rfl hx | exact fin _ f _ _ (.refl H) rep_bl
theorem eq_flat {K : PySem.W.Frag} {H : Hp} {m : Ms} {Q : VK} {P : D → Prop} {b : Bool} (fin : ∀ d, P d → ∀ v H', Same H H' → Rep K H' m d v → Q v H') (h : P (.bl b)) : Q (.bl b) H := fin _ h _ _ (.refl H) rep_bl
theorem op_eqDD (hu : X.A.units + 64 < cLine) : OpR X (compareOp .Eq) (LV2 X.K eqD) := by
  intro pins s σ H x y v u Q I rx ry h
  obtain ⟨hc, m, dx, dy, P, w, h1, h2, f, fin⟩ := h
  have gen : eqG false dx dy P → wpAny (model X.prog X.w) X.A (compareOp .Eq v u) (EP X pins σ Q) X.xe s := fun ⟨p, q, e1, e2, s1, s2, k⟩ =>
    op_eqD hu pins s σ H x y v u Q I rx ry ⟨p, q, dpw_of _ _ _ e1 h1, dpw_of _ _ _ e2 h2, s1, s2, eq_flat fin k⟩
  unfold eqD at f
  split at f
  · unfold RepW Rep at h1 h2
    subst h1; subst h2
    refine op_eq pins s σ H _ _ v u Q I rx ry ⟨rfl, ?_⟩
    rw [show decide (V.int _ = V.int _) = decide (_ = _) from decide_eq_decide.mpr ⟨fun e => V.int.inj e, fun e => congrArg V.int e⟩]
    exact eq_flat fin f
  · unfold RepW Rep at h1 h2
    subst h1; subst h2
    refine op_eq pins s σ H _ _ v u Q I rx ry ⟨rfl, ?_⟩
    rw [show decide (V.str _ = V.str _) = decide (_ = _) from decide_eq_decide.mpr ⟨fun e => V.str.inj e, fun e => congrArg V.str e⟩]
    exact eq_flat fin f
  · exact gen ⟨.none, .none, rfl, rfl, rfl, rfl, f⟩
  · exact gen f
theorem op_neDD (hu : X.A.units + 64 < cLine) : OpR X (compareOp .NotEq) (LV2 X.K neD) := by
  intro pins s σ H x y v u Q I rx ry h
  obtain ⟨hc, m, dx, dy, P, w, h1, h2, f, fin⟩ := h
  have gen : eqG true dx dy P → wpAny (model X.prog X.w) X.A (compareOp .NotEq v u) (EP X pins σ Q) X.xe s := fun ⟨p, q, e1, e2, s1, s2, k⟩ =>
    op_neD hu pins s σ H x y v u Q I rx ry ⟨p, q, dpw_of _ _ _ e1 h1, dpw_of _ _ _ e2 h2, s1, s2, eq_flat fin k⟩
  unfold neD at f
  split at f
  · unfold RepW Rep at h1 h2
    subst h1; subst h2
    refine op_ne pins s σ H _ _ v u Q I rx ry ⟨rfl, ?_⟩
    rw [show decide (V.int _ = V.int _) = decide (_ = _) from decide_eq_decide.mpr ⟨fun e => V.int.inj e, fun e => congrArg V.int e⟩]
    exact eq_flat fin f
  · unfold RepW Rep at h1 h2
    subst h1; subst h2
    refine op_ne pins s σ H _ _ v u Q I rx ry ⟨rfl, ?_⟩
    rw [show decide (V.str _ = V.str _) = decide (_ = _) from decide_eq_decide.mpr ⟨fun e => V.str.inj e, fun e => congrArg V.str e⟩]
    exact eq_flat fin f
  · exact gen ⟨.none, .none, rfl, rfl, rfl, rfl, f⟩
  · exact gen f
end
section
variable {X : Cx} {W : WX} {a b c e : Expr} {es rest : List Expr} {ca cb cc : CEx} {ta tb : CTx} {pos : Pos}
/-! ### chains, and, or, not, if -/
def cCh (f g : O2) (ca cb cc : CEx) : CEx := fun E sc hc P => ca E sc hc fun x hc1 => cb E sc hc1 fun y hc2 => f x y hc2 fun d => match d with
  | .bl true => cc E sc hc2 fun z hc3 => g y z hc3 fun r => P r hc3
  | .bl false => P (.bl false) hc2
  | _ => False
theorem ch_lift {f g : O2} {σ : L2.St} {H : Hp} {Q : VK} (h : LE X W (cCh f g ca cb cc) σ H Q) : tChain (LV2 X.K f) (LV2 X.K g) (LB X W ca) (LB X W cb) (LB X W cc) σ H Q := by
  obtain ⟨en, sc, hc, m, E, P, r, c, xo, fin⟩ := h
  refine ⟨en, sc, hc, m, E, _, r, c, xo, fun dx hc1 hp v H1 m1 x1 q1 => ⟨en, sc, hc1, m1, E, _, r.call x1, hp, xo, fun dy hc2 hp2 w H2 m2 x2 q2 => ⟨hc2, m2, dx, dy, _, x2.toWd, (q1.mono (r.call x1) x2.stp).w ((r.call x1).call x2), q2.w ((r.call x1).call x2), hp2, fun d pd v' H' sm q => ?_⟩⟩⟩
  cases d <;> try exact pd.elim
  rename_i bb
  unfold Rep at q
  subst q
  have r1 := r.call x1
  have r2 := r1.call x2
  have x3 := x1.trans (x2.trans (Ex.same x2.toWd sm))
  have r3 := r.call x3
  cases bb with
  | true =>
    refine ⟨true, rfl, ?_⟩
    rw [if_pos rfl]
    refine ⟨en, sc, hc2, m2, E, _, r3, pd, xo, fun dz hc3 hp3 z H3 m3 x4 q4 => ⟨hc3, m3, dy, dz, _, x4.toWd, ((q2.mono r2 (.same sm)).mono r3 x4.stp).w (r3.call x4), q4.w (r3.call x4), hp3, fun d' pd' v2 H2' sm2 qq => ?_⟩⟩
    exact fin d' hc3 pd' v2 H2' m3 (x3.trans (x4.trans (Ex.same x4.toWd sm2))) qq
  | false =>
    refine ⟨false, rfl, ?_⟩
    rw [if_neg Bool.false_ne_true]
    exact fin _ hc2 pd _ _ m2 x3 rep_bl
theorem ce_ch {o1 o2 : CmpOp} {f g : O2} (h1 : OpR X (compareOp o1) (LV2 X.K f)) (h2 : OpR X (compareOp o2) (LV2 X.K g)) (ha : CB X W a ca) (hb : CB X W b cb) (hc : CB X W c cc) (hm : lastMarks [o1, o2] [b, c] = false := by with_unfolding_all rfl) : CE X W (.Compare a [o1, o2] [b, c] pos) (cCh f g ca cb cc) :=
  ⟨pe_wk (pe_chain h1 h2 ha.p hb.p hc.p hm) fun σ H Q h => ch_lift h⟩
theorem ct_ch {o1 o2 : CmpOp} {f g : O2} (h1 : OpR X (compareOp o1) (LV2 X.K f)) (h2 : OpR X (compareOp o2) (LV2 X.K g)) (ha : CB X W a ca) (hb : CB X W b cb) (hc : CB X W c cc) (hm : lastMarks [o1, o2] [b, c] = false := by with_unfolding_all rfl) : CT X W (.Compare a [o1, o2] [b, c] pos) (cT (cCh f g ca cb cc)) :=
  ⟨pt_wk (pt_chain h1 h2 ha.p hb.p hc.p hm) fun σ H Q h => by
    obtain ⟨en, sc, hc, m, E, P, r, c, xo, fin⟩ := t_lift h
    exact ch_lift ⟨en, sc, hc, m, E, P, r, c, xo, fin⟩⟩
def cAnd (t u : CTx) : CTx := fun E sc hc P => t E sc hc fun b hc1 => if b = true then u E sc hc1 P else P false hc1
def cOr (t u : CTx) : CTx := fun E sc hc P => t E sc hc fun b hc1 => if b = true then P true hc1 else u E sc hc1 P
def cNot (t : CTx) : CTx := fun E sc hc P => t E sc hc fun b hc1 => P (!b) hc1
structure CW (X : Cx) (W : WX) (e : Expr) (c : CTx) : Prop where
  p : PW X e (LT X W c)
theorem pw_wk {X : Cx} {e : Expr} {t t' : TT} (h : PW X e t) (g : ∀ σ H Q, t' σ H Q → t σ H Q) : PW X e t' := ⟨fun wh pins s σ H Q I q => h.run wh pins s σ H Q I (g σ H Q q)⟩
theorem CW.t {e : Expr} {t : CTx} (h : CW X W e t) : CT X W e t := ⟨h.p.pt⟩
theorem and_lift {σ : L2.St} {H : Hp} {Q : Bool → Hp → Prop} (h : LT X W (cAnd ta tb) σ H Q) : tAnd (LT X W ta) (LT X W tb) σ H Q := by
  obtain ⟨en, sc, hc, m, E, P, r, c, xo, fin⟩ := h
  refine ⟨en, sc, hc, m, E, _, r, c, xo, fun b hc1 hp H1 m1 x1 => ?_⟩
  cases b with
  | true =>
    rw [if_pos rfl] at hp ⊢
    exact ⟨en, sc, hc1, m1, E, _, r.call x1, hp, xo, fun b2 hc2 hp2 H2 m2 x2 => fin b2 hc2 hp2 H2 m2 (x1.trans x2)⟩
  | false =>
    rw [if_neg Bool.false_ne_true] at hp ⊢
    exact fin _ hc1 hp H1 m1 x1
theorem or_lift {σ : L2.St} {H : Hp} {Q : Bool → Hp → Prop} (h : LT X W (cOr ta tb) σ H Q) : tOr (LT X W ta) (LT X W tb) σ H Q := by
  obtain ⟨en, sc, hc, m, E, P, r, c, xo, fin⟩ := h
  refine ⟨en, sc, hc, m, E, _, r, c, xo, fun b hc1 hp H1 m1 x1 => ?_⟩
  cases b with
  | true =>
    rw [if_pos rfl] at hp ⊢
    exact fin _ hc1 hp H1 m1 x1
  | false =>
    rw [if_neg Bool.false_ne_true] at hp ⊢
    exact ⟨en, sc, hc1, m1, E, _, r.call x1, hp, xo, fun b2 hc2 hp2 H2 m2 x2 => fin b2 hc2 hp2 H2 m2 (x1.trans x2)⟩
theorem cw_and1 (ha : CT X W a ta) : CW X W (.BoolOp .And [a] pos) ta := ⟨pw_and1 ha.p⟩
theorem cw_or1 (ha : CT X W a ta) : CW X W (.BoolOp .Or [a] pos) ta := ⟨pw_or1 ha.p⟩
theorem cw_and (ha : CT X W a ta) (hb : CW X W (.BoolOp .And (b :: rest) pos) tb) : CW X W (.BoolOp .And (a :: b :: rest) pos) (cAnd ta tb) := ⟨pw_wk (pw_and ha.p hb.p) fun _ _ _ h => and_lift h⟩
theorem cw_or (ha : CT X W a ta) (hb : CW X W (.BoolOp .Or (b :: rest) pos) tb) : CW X W (.BoolOp .Or (a :: b :: rest) pos) (cOr ta tb) := ⟨pw_wk (pw_or ha.p hb.p) fun _ _ _ h => or_lift h⟩
theorem ct_not (ha : CT X W a ta) : CT X W (.UnaryOp .Not a pos) (cNot ta) := ⟨pt_wk (pt_not ha.p) fun σ H Q ⟨en, sc, hc, m, E, P, r, c, xo, fin⟩ => ⟨en, sc, hc, m, E, _, r, c, xo, fun b hc1 hp H1 m1 x1 => fin _ hc1 hp H1 m1 x1⟩⟩
/-- as values: all but the last are bools -/
def cAndV (ca cb : CEx) : CEx := fun E sc hc P => ca E sc hc fun d hc1 => match d with | .bl true => cb E sc hc1 P | .bl false => P (.bl false) hc1 | _ => False
def cOrV (ca cb : CEx) : CEx := fun E sc hc P => ca E sc hc fun d hc1 => match d with | .bl true => P (.bl true) hc1 | .bl false => cb E sc hc1 P | _ => False
def cNotV (ca : CEx) : CEx := fun E sc hc P => ca E sc hc fun d hc1 => match d with | .bl b => P (.bl (!b)) hc1 | _ => False
theorem ce_one {op : BoolOp} (h : CE X W a ca) : CE X W (.BoolOp op [a] pos) ca := ⟨pe_one h.p⟩
theorem ce_and (ha : CE X W a ca) (hb : CE X W (.BoolOp .And (b :: rest) pos) cb) : CE X W (.BoolOp .And (a :: b :: rest) pos) (cAndV ca cb) := ⟨pe_wk (pe_and ha.p hb.p) fun σ H Q h => by
  obtain ⟨en, sc, hc, m, E, P, r, c, xo, fin⟩ := h
  refine ⟨en, sc, hc, m, E, _, r, c, xo, fun d hc1 hp v H1 m1 x1 q => ?_⟩
  cases d <;> try exact hp.elim
  rename_i k
  unfold Rep at q
  refine ⟨k, q, ?_⟩
  cases k with
  | true =>
    rw [if_pos rfl]
    exact ⟨en, sc, hc1, m1, E, _, r.call x1, hp, xo, fun d2 hc2 hp2 v2 H2 m2 x2 q2 => fin d2 hc2 hp2 v2 H2 m2 (x1.trans x2) q2⟩
  | false =>
    rw [if_neg Bool.false_ne_true]
    exact fin _ hc1 hp _ H1 m1 x1 rep_bl⟩
theorem ce_or (ha : CE X W a ca) (hb : CE X W (.BoolOp .Or (b :: rest) pos) cb) : CE X W (.BoolOp .Or (a :: b :: rest) pos) (cOrV ca cb) := ⟨pe_wk (pe_or ha.p hb.p) fun σ H Q h => by
  obtain ⟨en, sc, hc, m, E, P, r, c, xo, fin⟩ := h
  refine ⟨en, sc, hc, m, E, _, r, c, xo, fun d hc1 hp v H1 m1 x1 q => ?_⟩
  cases d <;> try exact hp.elim
  rename_i k
  unfold Rep at q
  refine ⟨k, q, ?_⟩
  cases k with
  | false =>
    rw [if_neg Bool.false_ne_true]
    exact ⟨en, sc, hc1, m1, E, _, r.call x1, hp, xo, fun d2 hc2 hp2 v2 H2 m2 x2 q2 => fin d2 hc2 hp2 v2 H2 m2 (x1.trans x2) q2⟩
  | true =>
    rw [if_pos rfl]
    exact fin _ hc1 hp _ H1 m1 x1 rep_bl⟩
theorem ce_not (ha : CE X W a ca) : CE X W (.UnaryOp .Not a pos) (cNotV ca) := ⟨pe_wk (pe_not ha.p) fun σ H Q h => by
  obtain ⟨en, sc, hc, m, E, P, r, c, xo, fin⟩ := h
  refine ⟨en, sc, hc, m, E, _, r, c, xo, fun d hc1 hp v H1 m1 x1 q => ?_⟩
  cases d <;> try exact hp.elim
  unfold Rep at q
  exact ⟨_, q, fin _ hc1 hp _ H1 m1 x1 rep_bl⟩⟩
def cIf (t : CTx) (ca cb : CEx) : CEx := fun E sc hc P => t E sc hc fun b hc1 => if b = true then ca E sc hc1 P else cb E sc hc1 P
theorem ce_if (hc : CT X W c ta) (ha : CE X W a ca) (hb : CE X W b cb) : CE X W (.IfExp c a b pos) (cIf ta ca cb) := ⟨pe_wk (pe_ifExp hc.p ha.p hb.p) fun σ H Q h => by
  obtain ⟨en, sc, hc, m, E, P, r, c, xo, fin⟩ := h
  refine ⟨en, sc, hc, m, E, _, r, c, xo, fun k hc1 hp H1 m1 x1 => ?_⟩
  cases k with
  | true =>
    rw [if_pos rfl] at hp ⊢
    exact ⟨en, sc, hc1, m1, E, _, r.call x1, hp, xo, fun d2 hc2 hp2 v2 H2 m2 x2 q2 => fin d2 hc2 hp2 v2 H2 m2 (x1.trans x2) q2⟩
  | false =>
    rw [if_neg Bool.false_ne_true] at hp ⊢
    exact ⟨en, sc, hc1, m1, E, _, r.call x1, hp, xo, fun d2 hc2 hp2 v2 H2 m2 x2 q2 => fin d2 hc2 hp2 v2 H2 m2 (x1.trans x2) q2⟩⟩
end
end Mn

namespace Mn
open PySem PySem.Spec PyProof.Rows L2
/-! ### arguments -/
abbrev RepBL (K : PySem.W.Frag) (σ : L2.St) (sc : List Sl) (H : Hp) (m : Ms) : List D → List V → Prop := Paired (RepB K σ sc H m)
abbrev RepWL (K : PySem.W.Frag) (H : Hp) (m : Ms) : List D → List V → Prop := Paired (RepW K H m)
def LBA (X : Cx) (W : WX) (c : CAx) : TA := fun σ H Q => ∃ en sc hc m E P, Rs X.K en σ H sc hc m ∧ c E sc hc P ∧ XOk X W en E ∧
  ∀ ds hc', P ds hc' → ∀ vs H' m', Ex X.K ⟨H, hc, m⟩ H' hc' m' → RepBL X.K σ sc H' m' ds vs → Q vs H'
structure CBA (X : Cx) (W : WX) (es : List Expr) (c : CAx) : Prop where
  p : PA X es (LBA X W c)
def cNil : CAx := fun _ _ hc P => P [] hc
def cCons (ca : CEx) (cr : CAx) : CAx := fun E sc hc P => ca E sc hc fun d hc1 => cr E sc hc1 fun ds hc2 => P (d :: ds) hc2
section
variable {X : Cx} {W : WX} {a b e : Expr} {es : List Expr} {ca cb : CEx} {c : CAx} {pos : Pos}
theorem ca_nil : CA X W [] cNil := ⟨pa_wk pa_nil fun σ H Q ⟨en, sc, hc, m, E, P, r, k, xo, fin⟩ => fin _ hc k _ H m (.refl r.toWd) RepL.nil⟩
theorem ca_cons (ha : CE X W e ca) (hr : CA X W es c) (hs : starEach (e :: es) X.env = (false, eval e X.env) :: starEach es X.env := by rfl) : CA X W (e :: es) (cCons ca c) :=
  ⟨pa_wk (pa_cons ha.p hr.p hs) fun σ H Q ⟨en, sc, hc, m, E, P, r, k, xo, fin⟩ =>
    ⟨en, sc, hc, m, E, _, r, k, xo, fun d hc1 hp v H1 m1 x1 q1 => ⟨en, sc, hc1, m1, E, _, r.call x1, hp, xo, fun ds hc2 hp2 vs H2 m2 x2 q2 => fin _ hc2 hp2 _ H2 m2 (x1.trans x2) (RepL.cons (Rep.mono x1.mu x2.stp _ _ q1) q2)⟩⟩⟩
theorem RepBL.mono {K : PySem.W.Frag} {en : En} {σ : L2.St} {sc : List Sl} {H H' : Hp} {hc : CH} {m m' : Ms} (r : Rs K en σ H sc hc m) (s : Stp H m H' m') : ∀ {ds : List D} {vs : List V}, RepBL K σ sc H m ds vs → RepBL K σ sc H' m' ds vs
  | _, _, .nil => .nil
  | _, _, .cons h t => .cons (h.mono r s) (RepBL.mono r s t)
theorem RepBL.w {K : PySem.W.Frag} {en : En} {σ : L2.St} {sc : List Sl} {H : Hp} {hc : CH} {m : Ms} (r : Rs K en σ H sc hc m) : ∀ {ds : List D} {vs : List V}, RepBL K σ sc H m ds vs → RepWL K H m ds vs
  | _, _, .nil => .nil
  | _, _, .cons h t => .cons (h.w r) (RepBL.w r t)
theorem cba_nil : CBA X W [] cNil := ⟨pa_wk pa_nil fun σ H Q ⟨en, sc, hc, m, E, P, r, k, xo, fin⟩ => fin _ hc k _ H m (.refl r.toWd) .nil⟩
theorem cba_cons (ha : CB X W e ca) (hr : CBA X W es c) (hs : starEach (e :: es) X.env = (false, eval e X.env) :: starEach es X.env := by rfl) : CBA X W (e :: es) (cCons ca c) :=
  ⟨pa_wk (pa_cons ha.p hr.p hs) fun σ H Q ⟨en, sc, hc, m, E, P, r, k, xo, fin⟩ =>
    ⟨en, sc, hc, m, E, _, r, k, xo, fun d hc1 hp v H1 m1 x1 q1 => ⟨en, sc, hc1, m1, E, _, r.call x1, hp, xo, fun ds hc2 hp2 vs H2 m2 x2 q2 => fin _ hc2 hp2 _ H2 m2 (x1.trans x2) (.cons (q1.mono (r.call x1) x2.stp) q2)⟩⟩⟩
/-- *e, a tuple or a list -/
def cStar (ca : CEx) (cr : CAx) : CAx := fun E sc hc P => ca E sc hc fun d hc1 => match d with
  | .tup xs => cr E sc hc1 fun ds hc2 => P (xs ++ ds) hc2
  | .lst xs => cr E sc hc1 fun ds hc2 => P (xs ++ ds) hc2
  | _ => False
theorem ca_star {p : Pos} (ha : CE X W e ca) (hr : CA X W es c) : CA X W (.Starred e p :: es) (cStar ca c) :=
  ⟨pa_wk (StX.pa_star ha.p hr.p) fun σ H Q ⟨en, sc, hc, m, E, P, r, k, xo, fin⟩ => by
    refine ⟨en, sc, hc, m, E, _, r, k, xo, fun d hc1 hp v H1 m1 x1 q1 => ?_⟩
    cases d <;> try exact hp.elim
    · unfold Rep at q1
      obtain ⟨p, vs, rfl, q, rl⟩ := q1
      exact ⟨p, vs, rfl, .inl q, en, sc, hc1, m1, E, _, r.call x1, hp, xo, fun ds hc2 hp2 ws H2 m2 x2 q2 => fin _ hc2 hp2 _ H2 m2 (x1.trans x2) ((RepL.mono x1.mu x2.stp _ _ rl).append q2)⟩
    · unfold Rep at q1
      obtain ⟨p, vs, rfl, _, q, rl⟩ := q1
      exact ⟨p, vs, rfl, .inr (.of q), en, sc, hc1, m1, E, _, r.call x1, hp, xo, fun ds hc2 hp2 ws H2 m2 x2 q2 => fin _ hc2 hp2 _ H2 m2 (x1.trans x2) ((RepL.mono x1.mu x2.stp _ _ rl).append q2)⟩⟩

/-! ### displays -/
def cTup (c : CAx) : CEx := fun E sc hc P => c E sc hc fun ds hc1 => ds.length ≤ sizeLine ∧ P (.tup ds) hc1
def cLst (c : CAx) : CEx := fun E sc hc P => c E sc hc fun ds hc1 => ds.length ≤ sizeLine ∧ P (.lst ds) hc1
def updc (hc : CH) (p : Addr) (ds : List D) : CH := fun q => if q = p then some ds else hc q
/-- a list that will be changed -/
def cLstM (c : CAx) : CEx := fun E sc hc P => c E sc hc fun ds hc1 => ds.length ≤ sizeLine ∧ ∀ p, hc1 p = none → P (.ref p) (updc hc1 p ds)
theorem ce_tup {x1 : Nat} (h : CA X W es c) : CE X W (.Tuple es x1 pos) (cTup c) :=
  ⟨pe_wk (pe_tup h.p) fun σ H Q ⟨en, sc, hc, m, E, P, r, k, xo, fin⟩ => ⟨en, sc, hc, m, E, _, r, k, xo, fun ds hc1 hp vs H1 m1 x1 q1 =>
    ⟨by rw [← q1.length]; exact hp.1, fun p n => fin _ hc1 hp.2 _ _ m1 (x1.trans (Ex.same x1.toWd (same_upd n))) (rep_tup x1.mu n q1)⟩⟩⟩
theorem ce_lst (h : CA X W es c) : CE X W (.List es pos) (cLst c) :=
  ⟨pe_wk (pe_lst h.p) fun σ H Q ⟨en, sc, hc, m, E, P, r, k, xo, fin⟩ => ⟨en, sc, hc, m, E, _, r, k, xo, fun ds hc1 hp vs H1 m1 x1 q1 =>
    ⟨by rw [← q1.length]; exact hp.1, fun p n => fin _ hc1 hp.2 _ _ m1 (x1.trans (Ex.same x1.toWd (same_upd n))) (rep_lst x1.mu n q1)⟩⟩⟩
theorem wd_new {K : PySem.W.Frag} {H : Hp} {hc : CH} {m : Ms} {p : Addr} {ds : List D} {vs : List V} (w : Wd K H hc m) (n : H p = none) (q : RepL K H m ds vs) : Ex K ⟨H, hc, m⟩ (upd H p (.lst vs)) (updc hc p ds) (fun a => m a ∨ a = p) := by
  have st : Stp H m (upd H p (.lst vs)) (fun a => m a ∨ a = p) := ⟨fun a o e _ _ => same_upd n a o e, fun a z => z.elim .inl fun e => .inr (by rw [e]; exact n), fun a o e => by rw [same_upd n a o e]; simp⟩
  refine ⟨⟨tabs_put w.tab (.inl n), fun a z => ?_, fun a es e => ?_, fun a es e => ?_⟩, w.mu, w.hm, fun a o e _ _ => same_upd n a o e, st.grow, fun a z _ => .inl z, fun a es e => ?_, fun a o e => by rw [same_upd n a o e]; simp⟩
  · rcases z with z | rfl
    · obtain ⟨ws, e⟩ := w.mu a z
      exact ⟨ws, same_upd n _ _ e⟩
    · exact ⟨vs, upd_same⟩
  · unfold updc at e
    by_cases h : a = p
    · exact .inr h
    · rw [if_neg h] at e
      exact .inl (w.hm a es e)
  · unfold updc at e
    by_cases h : a = p
    · rw [if_pos h] at e
      cases e
      subst h
      exact ⟨vs, upd_same, RepL.mono w.mu st _ _ q⟩
    · rw [if_neg h] at e
      obtain ⟨ws, e1, q1⟩ := w.heap a es e
      exact ⟨ws, same_upd n _ _ e1, RepL.mono w.mu st _ _ q1⟩
  · unfold updc at e
    by_cases h : a = p
    · rw [h]; exact .inr n
    · rw [if_neg h] at e
      exact .inl (by show hc a ≠ none; rw [e]; simp)
theorem hc_none {K : PySem.W.Frag} {H : Hp} {hc : CH} {m : Ms} {p : Addr} (w : Wd K H hc m) (n : H p = none) : hc p = none := by
  cases e : hc p with
  | none => rfl
  | some ds =>
    obtain ⟨vs, e1, _⟩ := w.heap p ds e
    rw [n] at e1; cases e1
theorem rep_ref {K : PySem.W.Frag} {H : Hp} {m : Ms} {p : Addr} : Rep K H m (.ref p) (.ref p) := by unfold Rep; rfl
theorem ce_lstM (h : CA X W es c) : CE X W (.List es pos) (cLstM c) :=
  ⟨pe_wk (pe_lst h.p) fun σ H Q ⟨en, sc, hc, m, E, P, r, k, xo, fin⟩ => ⟨en, sc, hc, m, E, _, r, k, xo, fun ds hc1 hp vs H1 m1 x1 q1 =>
    ⟨by rw [← q1.length]; exact hp.1, fun p n => by
      have x := wd_new x1.toWd n q1
      exact fin _ _ (hp.2 p (hc_none x1.toWd n)) _ _ _ (x1.trans x) rep_ref⟩⟩⟩

/-! ### subscripts, slices -/
abbrev atD (xs : List D) (i : Int) (P : D → Prop) : Prop := oth (atI xs i) P
def ixD : O2
  | .lst xs, .int i, _, P => atD xs i P
  | .tup xs, .int i, _, P => atD xs i P
  | .str z, .int i, _, P => z.length ≤ sizeLine ∧ oth (atI z.cps.toList i) fun c => P (.str ⟨#[c]⟩)
  | .ref a, .int i, hc, P => oth (hc a) fun xs => oth (atI xs i) P
  | _, _, _, _ => False
theorem atD_get {K : PySem.W.Frag} {H : Hp} {m : Ms} {xs : List D} {vs : List V} {i : Int} {P : D → Prop} (r : RepL K H m xs vs) (h : atD xs i P) : ∃ d v, P d ∧ atI vs i = some v ∧ Rep K H m d v := by
  obtain ⟨d, e, h⟩ := oth_of h
  unfold atI at e
  cases e1 : ixN xs.length i with
  | none => rw [e1] at e; cases e
  | some j =>
    rw [e1] at e
    obtain ⟨v, e2, q⟩ := r.get (i := j) (d := d) e
    refine ⟨d, v, h, ?_, q⟩
    unfold atI
    rw [← r.length, e1]
    exact e2
theorem ix_D : IxR X (LV2 X.K ixD) := by
  intro value slice pins s σ H x y v u Q I rx ry h hs
  obtain ⟨hc, m, dx, dy, P, w, h1, h2, f, fin⟩ := h
  cases dx <;> cases dy <;> try exact f.elim
  · unfold RepW Rep at h1 h2
    subst h1; subst h2
    obtain ⟨hz, f⟩ := f
    obtain ⟨c, e, f⟩ := oth_of f
    exact ix_str value slice pins s σ H _ _ v u Q I rx ry ⟨_, _, c, rfl, rfl, hz, e, fin _ f _ _ (.refl H) rep_str⟩ hs
  · unfold RepW Rep at h1 h2
    obtain ⟨p, vs, rfl, q, r⟩ := h1
    subst h2
    obtain ⟨d, z, pd, e, rz⟩ := atD_get r f
    exact ix_tup value slice pins s σ H _ _ v u Q I rx ry ⟨p, vs, _, z, rfl, rfl, q, e, fin _ pd _ _ (.refl H) rz⟩ hs
  · unfold RepW at h1 h2
    unfold Rep at h2
    obtain ⟨p, vs, rfl, q, r⟩ := h1
    subst h2
    obtain ⟨d, z, pd, e, rz⟩ := atD_get r f
    exact ix_list value slice pins s σ H _ _ v u Q I rx ry ⟨p, vs, _, z, rfl, rfl, .of q, e, fin _ pd _ _ (.refl H) rz⟩ hs
  · unfold RepW Rep at h1 h2
    subst h1; subst h2
    obtain ⟨xs, e0, f'⟩ := oth_of f
    obtain ⟨vs, q, r⟩ := w.heap _ _ e0
    obtain ⟨d, z, pd, e, rz⟩ := atD_get r f'
    exact ix_list value slice pins s σ H _ _ v u Q I rx ry ⟨_, vs, _, z, rfl, rfl, .of q, e, fin _ pd _ _ (.refl H) rz⟩ hs
theorem ce_ix (ha : CB X W a ca) (hb : CE X W b cb) (hs : PlainIx b := by first | exact fun _ _ => rfl) : CE X W (.Subscript a b pos) (cOp ixD ca cb) := ⟨pe_wk (pe_ix ix_D ha.p hb.bo.p hs) fun σ H Q h => op_lift h⟩
/-- a part of a slice -/
abbrev COx := XP → List Sl → CH → (Option Int → CH → Prop) → Prop
def LO (X : Cx) (W : WX) (c : COx) : TO := fun σ H Q => ∃ en sc hc m E P, Rs X.K en σ H sc hc m ∧ c E sc hc P ∧ XOk X W en E ∧
  ∀ i hc', P i hc' → ∀ H' m', Ex X.K ⟨H, hc, m⟩ H' hc' m' → Q i H'
structure CO (X : Cx) (W : WX) (e : Option Expr) (c : COx) : Prop where
  p : PO X e (LO X W c)
theorem po_wk {X : Cx} {e : Option Expr} {t t' : TO} (h : PO X e t) (g : ∀ σ H Q, t' σ H Q → t σ H Q) : PO X e t' := ⟨fun pins s σ H Q I q => h.run pins s σ H Q I (g σ H Q q)⟩
def cNoP : COx := fun _ _ hc P => P none hc
def cSoP (c : CEx) : COx := fun E sc hc P => c E sc hc fun d hc1 => match d with | .int i => P (some i) hc1 | _ => False
theorem co_none : CO X W none cNoP := ⟨po_wk po_none fun σ H Q ⟨en, sc, hc, m, E, P, r, k, xo, fin⟩ => fin _ hc k H m (.refl r.toWd)⟩
theorem co_some (h : CE X W e ca) : CO X W (some e) (cSoP ca) := ⟨po_wk (po_some h.p) fun σ H Q ⟨en, sc, hc, m, E, P, r, k, xo, fin⟩ =>
  ⟨en, sc, hc, m, E, _, r, k, xo, fun d hc1 hp v H1 m1 x1 q1 => by
    cases d <;> try exact hp.elim
    unfold Rep at q1
    exact ⟨_, q1, fin _ hc1 hp H1 m1 x1⟩⟩⟩
def cutX {α : Type} (xs : List α) (lo hi : Option Int) : List α := (xs.drop (HT.sIx xs.length 0 lo)).take (HT.sIx xs.length xs.length hi - HT.sIx xs.length 0 lo)
theorem RepL.cut {K : PySem.W.Frag} {H : Hp} {m : Ms} {ds : List D} {vs : List V} (h : RepL K H m ds vs) (lo hi : Option Int) : RepL K H m (cutX ds lo hi) (cutV vs lo hi) := by
  unfold cutX cutV
  rw [h.length]
  exact (h.drop _).take _
def slD (x : D) (lo hi : Option Int) (hc : CH) (P : D → Prop) : Prop := match x with
  | .lst xs => P (.lst (cutX xs lo hi))
  | .frz xs => P (.lst (cutX xs lo hi))
  | .tup xs => P (.tup (cutX xs lo hi))
  | .str z => z.length ≤ sizeLine ∧ P (.str (cutS z lo hi))
  | .ref a => oth (hc a) fun xs => P (.lst (cutX xs lo hi))
  | _ => False
def LVS (K : PySem.W.Frag) : V → Option Int → Option Int → Hp → VK → Prop := fun x lo hi H Q => ∃ hc m dx P, Wd K H hc m ∧ RepW K H m dx x ∧ slD dx lo hi hc P ∧ ∀ d, P d → ∀ v H', Same H H' → Rep K H' m d v → Q v H'
theorem cutX_all {α : Type} {xs : List α} {lo hi : Option Int} (h : HT.sIx xs.length 0 lo = 0 ∧ HT.sIx xs.length xs.length hi = xs.length) : cutX xs lo hi = xs := by
  unfold cutX
  rw [h.1, h.2]
  simp
theorem sl_D : SlR X (LVS X.K) := by
  intro pins s σ H x v vl vu lo hi sl Q I rx hs pl pu h
  obtain ⟨hc, m, dx, P, w, h1, f, fin⟩ := h
  cases dx <;> try exact f.elim
  · unfold RepW Rep at h1
    subst h1
    exact sl_str pins s σ H _ v vl vu lo hi sl Q I rx hs pl pu ⟨_, rfl, f.1, fin _ f.2 _ _ (.refl H) rep_str⟩
  · rename_i xs
    unfold RepW Rep at h1
    obtain ⟨p, vs, rfl, q, r⟩ := h1
    refine sl_tupA pins s σ H _ v vl vu lo hi sl Q I rx hs pl pu ⟨p, vs, rfl, q, fun z => fin _ f _ _ (.refl H) ?_, fun _ a n => fin _ f _ _ (same_upd n) (rep_tup w.mu n (r.cut lo hi))⟩
    have l := r.length
    rw [cutX_all (by rw [l]; exact z)]
    unfold Rep
    exact ⟨p, vs, rfl, q, r⟩
  · unfold RepW at h1
    obtain ⟨p, vs, rfl, q, r⟩ := h1
    exact sl_list pins s σ H _ v vl vu lo hi sl Q I rx hs pl pu ⟨p, vs, rfl, .of q, fun a n => fin _ f _ _ (same_upd n) (rep_lst w.mu n (r.cut lo hi))⟩
  · unfold RepW Rep at h1
    subst h1
    obtain ⟨xs, e0, f'⟩ := oth_of f
    obtain ⟨vs, q, r⟩ := w.heap _ _ e0
    exact sl_list pins s σ H _ v vl vu lo hi sl Q I rx hs pl pu ⟨_, vs, rfl, .of q, fun a n => fin _ f' _ _ (same_upd n) (rep_lst w.mu n (r.cut lo hi))⟩
  · unfold RepW Rep at h1
    obtain ⟨p, vs, rfl, q, r⟩ := h1
    exact sl_list pins s σ H _ v vl vu lo hi sl Q I rx hs pl pu ⟨p, vs, rfl, q.sq, fun a n => fin _ f _ _ (same_upd n) (rep_lst w.mu n (r.cut lo hi))⟩
def cSl (ca : CEx) (cl ch : COx) : CEx := fun E sc hc P => ca E sc hc fun x hc1 => cl E sc hc1 fun l hc2 => ch E sc hc2 fun u hc3 => slD x l u hc3 fun d => P d hc3
theorem ce_sl {lo hi : Option Expr} {cl ch : COx} {p2 : Pos} (ha : CB X W a ca) (hl : CO X W lo cl) (hu : CO X W hi ch) : CE X W (.Subscript a (.Slice lo hi none p2) pos) (cSl ca cl ch) :=
  ⟨pe_wk (pe_slice sl_D ha.p hl.p hu.p) fun σ H Q ⟨en, sc, hc, m, E, P, r, k, xo, fin⟩ =>
    ⟨en, sc, hc, m, E, _, r, k, xo, fun x hc1 hp v H1 m1 x1 q1 => ⟨en, sc, hc1, m1, E, _, r.call x1, hp, xo, fun l hc2 hp2 H2 m2 x2 => ⟨en, sc, hc2, m2, E, _, (r.call x1).call x2, hp2, xo, fun u hc3 hp3 H3 m3 x3 =>
      ⟨hc3, m3, x, _, x3.toWd, ((q1.mono (r.call x1) x2.stp).mono ((r.call x1).call x2) x3.stp).w (((r.call x1).call x2).call x3), hp3, fun d pd v' H' sm q => fin d hc3 pd v' H' m3 (x1.trans (x2.trans (x3.trans (Ex.same x3.toWd sm)))) q⟩⟩⟩⟩⟩

/-! ### calls -/
def LVn (K : PySem.W.Frag) (f : On) : List V → Hp → VK → Prop := fun xs H Q => ∃ hc m ds P, Wd K H hc m ∧ RepWL K H m ds xs ∧ f ds hc P ∧ ∀ d, P d → ∀ v H', Same H H' → Rep K H' m d v → Q v H'
def cFn (f : On) (c : CAx) : CEx := fun E sc hc P => c E sc hc fun ds hc1 => f ds hc1 fun d => P d hc1
theorem fn_lift {f : On} {σ : L2.St} {H : Hp} {Q : VK} (h : LE X W (cFn f c) σ H Q) : LBA X W c σ H fun xs H1 => LVn X.K f xs H1 Q := by
  obtain ⟨en, sc, hc, m, E, P, r, k, xo, fin⟩ := h
  exact ⟨en, sc, hc, m, E, _, r, k, xo, fun ds hc1 hp vs H1 m1 x1 q1 => ⟨hc1, m1, ds, _, x1.toWd, q1.w (r.call x1), hp, fun d pd v' H' sm q => fin d hc1 pd v' H' m1 (x1.trans (Ex.same x1.toWd sm)) q⟩⟩
theorem ce_bf {x : Str} {id : String} {f : On} {p : Pos} (hc : CallR X (.builtin id) (LVn X.K f)) (hm : X.mg x = none) (ha : CBA X W (e :: es) c) (hg : Gl X x := by rfl) (hv : bootBuiltins x = some (.builtin id) := by decide +kernel) (hn : x ≠ "__name__" := by decide) (hdb : (x == ("__debug__" : Str)) = false := by decide)
    (he : starEach (e :: es) X.env = (false, eval e X.env) :: starEach es X.env := by rfl) (hpl : (backTo pos (starEach es X.env)).any (·.1) = false := by rfl) : CE X W (.Call (.Name x p) (e :: es) [] pos) (cFn f c) :=
  ⟨pe_wk (pe_callB hc hg hm hv ha.p hn hdb he hpl) fun σ H Q h => fn_lift h⟩
theorem ce_bt {x : Str} {id : String} {f : On} {p : Pos} (hc : CallR X (.type id) (LVn X.K f)) (hm : X.mg x = none) (ha : CBA X W (e :: es) c) (hg : Gl X x := by rfl) (hv : bootBuiltins x = some (.type id) := by decide +kernel) (hn : x ≠ "__name__" := by decide) (hdb : (x == ("__debug__" : Str)) = false := by decide)
    (he : starEach (e :: es) X.env = (false, eval e X.env) :: starEach es X.env := by rfl) (hpl : (backTo pos (starEach es X.env)).any (·.1) = false := by rfl) : CE X W (.Call (.Name x p) (e :: es) [] pos) (cFn f c) :=
  ⟨pe_wk (pe_callTy hc hg hm hv ha.p hn hdb he hpl) fun σ H Q h => fn_lift h⟩

/-- a def's promise in clean words -/
abbrev Spc := List D → CH → (D → CH → Prop) → (Exn → CH → Prop) → Prop
def RepXK (K : PySem.W.Frag) (mg : Str → Option Value) (H : Hp) (m : Ms) (x : Exn) (cls : Value) (d : Option Addr) : Prop :=
  mg x.cls = some cls ∧ ((x.fs = [] ∧ d = none) ∨ ∃ dx fs, d = some dx ∧ H dx = some (.xd fs) ∧ fs.map (·.1) = x.fs.map (·.1) ∧ RepL K H m (x.fs.map (·.2)) (fs.map (·.2)))
def toSp (K : PySem.W.Frag) (mg : Str → Option Value) (sp : Spc) : Sp := fun vs H Q E => ∃ hc m ds P PE, Wd K H hc m ∧ RepL K H m ds vs ∧ sp ds hc P PE ∧
  (∀ d hc', P d hc' → ∀ v H' m', Ex K ⟨H, hc, m⟩ H' hc' m' → Rep K H' m' d v → Q v H') ∧
  (∀ x hc', PE x hc' → ∀ cls dx H' m', Ex K ⟨H, hc, m⟩ H' hc' m' → RepXK K mg H' m' x cls dx → E cls dx H')
def cCall (sp : Spc) (c : CAx) : CEx := fun E sc hc P => c E sc hc fun ds hc1 => sp ds hc1 P fun x hc2 => E x sc hc2
theorem ce_call {x : Str} {p : Pos} {k : Nat} {f : Addr} {fd : FuncData} {ps : List Str} {sp : Spc} (F : FnG X.prog X.w X.K X.mg X.base (L2.CX X.prog X.w) k f fd ps (toSp X.K X.mg sp)) (hr : RT k X W) (hm : X.mg x = some (.ref f)) (hk : PySem.W.keepIn X.K (.ref f) = true) (hb : Binds X.K fd ps [])
    (ha : CA X W (e :: es) c) (hg : Gl X x := by rfl) (hdb : (x == ("__debug__" : Str)) = false := by decide) (he : starEach (e :: es) X.env = (false, eval e X.env) :: starEach es X.env := by rfl) (hpl : (backTo pos (starEach es X.env)).any (·.1) = false := by rfl) : CE X W (.Call (.Name x p) (e :: es) [] pos) (cCall sp c) :=
  ⟨pe_wk (pe_callX F hr hg hm hk hb .nil ha.p hdb he hpl) fun σ H Q ⟨en, sc, hc, m, E, P, r, k, xo, fin⟩ =>
    ⟨en, sc, hc, m, E, _, r, k, xo, fun ds hc1 hp vs H1 m1 x1 q1 => by
      show toSp X.K X.mg sp (vs ++ []) H1 Q _
      rw [List.append_nil]
      exact ⟨hc1, m1, ds, P, _, x1.toWd, q1, hp, fun d hc' pd v H' m' x q => fin d hc' pd v H' m' (x1.trans x) q, fun y hc' py cls dx H' m' x q => xo y sc hc' py cls dx σ H' m' (r.call (x1.trans x)) q⟩⟩⟩
end
end Mn

namespace Mn
open PySem PySem.Spec PyProof.Rows L2
/-- what is wanted behind a statement -/
structure CEnds where
  nx : List Sl → CH → Prop
  rt : D → CH → Prop
  bk : List Sl → CH → Prop := fun _ _ => False
  ct : List Sl → CH → Prop := fun _ _ => False
  xp : XP := fun _ _ _ => False
abbrev CSx := CEnds → List Sl → CH → Prop
abbrev Goes (X : Cx) (en : En) (H : Hp) (m : Ms) (P : List Sl → CH → Prop) (Q : L2.St → Hp → Prop) : Prop :=
  ∀ sc' hc', P sc' hc' → ∀ σ' H' m', Rs X.K en σ' H' sc' hc' m' → Stp H m H' m' → Q σ' H'
structure EndOk (X : Cx) (W : WX) (en : En) (H : Hp) (m : Ms) (C : CEnds) (D : Ends) : Prop where
  nx : Goes X en H m C.nx D.nx
  bk : Goes X en H m C.bk D.bk
  ct : Goes X en H m C.ct D.ct
  rt : ∀ d hc', C.rt d hc' → ∀ v H' m', Ex X.K en H' hc' m' → Rep X.K H' m' d v → D.rt v H'
  xp : XOk X W en C.xp
theorem Goes.step {X : Cx} {en : En} {H H1 : Hp} {m m1 : Ms} {P : List Sl → CH → Prop} {Q : L2.St → Hp → Prop} (g : Goes X en H m P Q) (s : Stp H m H1 m1) : Goes X en H1 m1 P Q := fun sc' hc' p σ' H' m' r s' => g sc' hc' p σ' H' m' r (s.trans s')
theorem EndOk.step {X : Cx} {W : WX} {en : En} {H H1 : Hp} {m m1 : Ms} {C : CEnds} {D : Ends} (g : EndOk X W en H m C D) (s : Stp H m H1 m1) : EndOk X W en H1 m1 C D := ⟨g.nx.step s, g.bk.step s, g.ct.step s, g.rt, g.xp⟩
def LS (X : Cx) (W : WX) (c : CSx) : TS := fun D σ H => ∃ en sc hc m C, Rs X.K en σ H sc hc m ∧ c C sc hc ∧ EndOk X W en H m C D
structure CS (X : Cx) (W : WX) (st : Stmt) (c : CSx) : Prop where
  p : PS X st (LS X W c)
structure CSs (X : Cx) (W : WX) (st : List Stmt) (c : CSx) : Prop where
  p : PSs X st (LS X W c)
theorem ps_wk {X : Cx} {e : Stmt} {t t' : TS} (h : PS X e t) (g : ∀ D σ H, t' D σ H → t D σ H) : PS X e t' := ⟨fun pins s σ H Q I q => h.run pins s σ H Q I (g Q σ H q)⟩
theorem pss_wk {X : Cx} {e : List Stmt} {t t' : TS} (h : PSs X e t) (g : ∀ D σ H, t' D σ H → t D σ H) : PSs X e t' := ⟨fun pins s σ H Q I q => h.run pins s σ H Q I (g Q σ H q)⟩
section
variable {X : Cx} {W : WX} {st : Stmt} {rest body ob : List Stmt} {c c1 c2 : CSx} {e tg iter : Expr} {es : List Expr} {ce : CEx} {ct : CTx} {ca : CAx} {pos : Pos}
def cNext : CSx := fun C sc hc => C.nx sc hc
def cSeq (c1 c2 : CSx) : CSx := fun C sc hc => c1 { C with nx := fun sc1 hc1 => c2 C sc1 hc1 } sc hc
theorem css_nil : CSs X W [] cNext := ⟨pss_wk pss_nil fun D σ H ⟨en, sc, hc, m, C, r, k, f⟩ => f.nx sc hc k σ H m r .refl⟩
theorem css_cons (h1 : CS X W st c1) (h2 : CSs X W rest c2) : CSs X W (st :: rest) (cSeq c1 c2) := ⟨pss_wk (pss_cons h1.p h2.p) fun D σ H ⟨en, sc, hc, m, C, r, k, f⟩ =>
  ⟨en, sc, hc, m, _, r, k, fun sc' hc' p σ' H' m' r' s' => ⟨en, sc', hc', m', C, r', p, f.step s'⟩, f.bk, f.ct, f.rt, f.xp⟩⟩
theorem css_one (h1 : CS X W st c1) : CSs X W [st] c1 := ⟨pss_one h1.p⟩
theorem cs_pass : CS X W (.Pass pos) cNext := ⟨ps_wk ps_pass fun D σ H ⟨en, sc, hc, m, C, r, k, f⟩ => f.nx sc hc k σ H m r .refl⟩
def cBrk : CSx := fun C sc hc => C.bk sc hc
def cCnt : CSx := fun C sc hc => C.ct sc hc
theorem cs_break : CS X W (.Break pos) cBrk := ⟨ps_wk ps_break fun D σ H ⟨en, sc, hc, m, C, r, k, f⟩ => f.bk sc hc k σ H m r .refl⟩
theorem cs_continue : CS X W (.Continue pos) cCnt := ⟨ps_wk ps_continue fun D σ H ⟨en, sc, hc, m, C, r, k, f⟩ => f.ct sc hc k σ H m r .refl⟩
theorem cs_doc {x : Str} {j : Nat} {p2 : Pos} : CS X W (.Expr (.Constant (.str x) j p2) pos) cNext := ⟨ps_wk ps_doc fun D σ H ⟨en, sc, hc, m, C, r, k, f⟩ => f.nx sc hc k σ H m r .refl⟩
def cDrop (ce : CEx) : CSx := fun C sc hc => ce C.xp sc hc fun _ hc1 => C.nx sc hc1
theorem cs_expr (h : CE X W e ce) (hs : swapsWith e none pos.line X.env = pure false := by rfl) : CS X W (.Expr e pos) (cDrop ce) := ⟨ps_wk (ps_expr h.p hs) fun D σ H ⟨en, sc, hc, m, C, r, k, f⟩ =>
  ⟨en, sc, hc, m, C.xp, _, r, k, f.xp, fun d hc1 p v H1 m1 x1 _ => f.nx sc hc1 p σ H1 m1 (r.call x1) x1.stp⟩⟩
/-- the owned list of a slot given away -/
theorem Ex.drop {K : PySem.W.Frag} {en : En} {H : Hp} {hc : CH} {m : Ms} (x : Ex K en H hc m) {p : Addr} (h0 : en.H p = none) (h1 : hc p = none) : Ex K en H hc (fun a => m a ∧ a ≠ p) ∧ Stp H m H (fun a => m a ∧ a ≠ p) := by
  have st : Stp H m H (fun a => m a ∧ a ≠ p) := ⟨fun _ _ h _ _ => h, fun _ h => .inl h.1, fun p o h => by rw [h]; simp⟩
  refine ⟨⟨⟨x.tab, fun a z => x.mu a z.1, fun a ds e => ⟨x.hm a ds e, fun z => by rw [z, h1] at e; cases e⟩, fun a ds e => ?_⟩, x.emut, x.ehm, x.keep, fun a z => x.grow a z.1, fun a z n => ⟨x.hold a z n, fun y => ?_⟩, x.hgrow, x.live⟩, st⟩
  · obtain ⟨vs, e1, q⟩ := x.heap a ds e
    exact ⟨vs, e1, RepL.mono x.mu st _ _ q⟩
  · obtain ⟨vs, e⟩ := x.emut a z
    rw [y, h0] at e; cases e
def cRet (ce : CEx) : CSx := fun C sc hc => ce C.xp sc hc fun d hc1 => C.rt d hc1
theorem cs_ret (h : CB X W e ce) : CS X W (.Return (some e) pos) (cRet ce) := ⟨ps_wk (ps_ret h.p) fun D σ H ⟨en, sc, hc, m, C, r, k, f⟩ =>
  ⟨en, sc, hc, m, C.xp, _, r, k, f.xp, fun d hc1 p v H1 m1 x1 q => by
    have r1 := r.call x1
    rcases q with q | ⟨i, ds, e1, rfl, e2⟩
    · exact f.rt d hc1 p v H1 m1 r1.toEx q
    · obtain ⟨a, vs, e3, ma, h0, h1, e4, q⟩ := r1.own i ds e1
      rw [e2] at e3
      cases e3
      obtain ⟨x, st⟩ := r1.toEx.drop h0 h1
      refine f.rt _ hc1 p _ H1 _ x ?_
      unfold Rep
      exact ⟨a, vs, rfl, fun z => z.2 rfl, e4, RepL.mono r1.mu st _ _ q⟩⟩⟩
def cRetN : CSx := fun C _ hc => C.rt .non hc
theorem cs_retN : CS X W (.Return none pos) cRetN := ⟨ps_wk ps_retN fun D σ H ⟨en, sc, hc, m, C, r, k, f⟩ => f.rt _ hc k _ H m r.toEx rep_non⟩
def cIfS (t : CTx) (c1 c2 : CSx) : CSx := fun C sc hc => t C.xp sc hc fun b hc1 => if b = true then c1 C sc hc1 else c2 C sc hc1
theorem cs_if (ht : CT X W e ct) (h1 : CSs X W body c1) (h2 : CSs X W ob c2) : CS X W (.If e body ob pos) (cIfS ct c1 c2) := ⟨ps_wk (ps_if ht.p h1.p h2.p) fun D σ H ⟨en, sc, hc, m, C, r, k, f⟩ =>
  ⟨en, sc, hc, m, C.xp, _, r, k, f.xp, fun b hc1 p H1 m1 x1 => by
    have r1 := r.call x1
    have s1 := x1.stp
    cases b with
    | true =>
      rw [if_pos rfl] at p
      exact iteT ⟨en, sc, hc1, m1, C, r1, p, f.step s1⟩
    | false =>
      rw [if_neg Bool.false_ne_true] at p
      exact iteF ⟨en, sc, hc1, m1, C, r1, p, f.step s1⟩⟩⟩

/-! ### targets -/
abbrev CGx := XP → D → List Sl → CH → (List Sl → CH → Prop) → Prop
def LG (X : Cx) (W : WX) (g : CGx) : TG := fun v σ H Q => ∃ en sc hc m E d P, Rs X.K en σ H sc hc m ∧ Rep X.K H m d v ∧ g E d sc hc P ∧ XOk X W en E ∧ Goes X en H m P Q
structure CG (X : Cx) (W : WX) (e : Expr) (g : CGx) : Prop where
  p : PG X e (LG X W g)
abbrev CGsx := XP → List D → List Sl → CH → (List Sl → CH → Prop) → Prop
def LGs (X : Cx) (W : WX) (g : CGsx) : TGs := fun vs σ H Q => ∃ en sc hc m E ds P, Rs X.K en σ H sc hc m ∧ RepL X.K H m ds vs ∧ g E ds sc hc P ∧ XOk X W en E ∧ Goes X en H m P Q
structure CGs (X : Cx) (W : WX) (es : List Expr) (g : CGsx) : Prop where
  p : PGs X es (LGs X W g)
theorem pg_wk {X : Cx} {e : Expr} {t t' : TG} (h : PG X e t) (g : ∀ v σ H Q, t' v σ H Q → t v σ H Q) : PG X e t' := ⟨fun pins s σ H v u Q I r q => h.run pins s σ H v u Q I r (g v σ H Q q)⟩
theorem pgs_wk {X : Cx} {e : List Expr} {t t' : TGs} (h : PGs X e t) (g : ∀ v σ H Q, t' v σ H Q → t v σ H Q) : PGs X e t' := ⟨fun pins s σ H v u Q I r q => h.run pins s σ H v u Q I r (g v σ H Q q)⟩
theorem Rs.put {K : PySem.W.Frag} {en : En} {σ : L2.St} {H : Hp} {sc : List Sl} {hc : CH} {m : Ms} (r : Rs K en σ H sc hc m) (i : Nat) {d : D} {v : V} (q : Rep K H m d v) : Rs K en (σ.set i (some v)) H (sc.set i (.val d)) hc m := by
  have ne : ∀ (j : Nat) (ds : List D), (sc.set i (.val d))[j]? = some (Sl.own ds) → j ≠ i ∧ sc[j]? = some (Sl.own ds) := fun j ds e => by
    by_cases h : i = j
    · subst h
      by_cases l : i < sc.length
      · rw [List.getElem?_set_self l] at e; cases e
      · rw [List.getElem?_eq_none (by rw [List.length_set]; omega)] at e; cases e
    · rw [List.getElem?_set_ne h] at e
      exact ⟨fun z => h z.symm, e⟩
  refine ⟨r.toEx, fun j d' e => ?_, fun j ds e => ?_, fun j l ds es p e1 e2 e3 e4 => ?_, by rw [List.length_set, List.length_set]; exact r.len⟩
  · by_cases h : i = j
    · subst h
      by_cases l : i < sc.length
      · rw [List.getElem?_set_self l] at e; cases e
        exact ⟨v, List.getElem?_set_self (by rw [← r.len]; exact l), q⟩
      · rw [List.getElem?_eq_none (by rw [List.length_set]; omega)] at e; cases e
    · rw [List.getElem?_set_ne h] at e ⊢
      exact r.slot j d' e
  · obtain ⟨h, e'⟩ := ne j ds e
    rw [List.getElem?_set_ne (Ne.symm h)]
    exact r.own j ds e'
  · obtain ⟨h1, f1⟩ := ne j ds e1
    obtain ⟨h2, f2⟩ := ne l es e2
    rw [List.getElem?_set_ne (Ne.symm h1)] at e3
    rw [List.getElem?_set_ne (Ne.symm h2)] at e4
    exact r.sep j l ds es p f1 f2 e3 e4
def gN (i : Nat) : CGx := fun _ d sc hc P => P (sc.set i (.val d)) hc
theorem cg_n (i : Nat) {x : Str} (hN : X.N.Nodup) (hi : X.N[i]? = some x := by rfl) (hx : Loc X.env.scope x := by first | exact Or.inl rfl | exact Or.inr rfl) (hf : X.fn x = true ∨ X.env.scope.names.lookup x = some .local := by first | exact .inl rfl | exact .inr rfl) : CG X W (.Name x pos) (gN i) :=
  ⟨pg_wk (pg_name hN hi hx hf) fun v σ H Q ⟨en, sc, hc, m, E, d, P, r, q, k, xo, f⟩ => f _ hc k _ H m (r.put i q) .refl⟩
def gNil' : CGsx := fun _ ds sc hc P => match ds with | [] => P sc hc | _ => False
def gCons' (g : CGx) (gs : CGsx) : CGsx := fun E ds sc hc P => match ds with | d :: r => g E d sc hc fun sc1 hc1 => gs E r sc1 hc1 P | [] => False
theorem cgs_nil : CGs X W [] gNil' := ⟨pgs_wk pgs_nil fun vs σ H Q ⟨en, sc, hc, m, E, ds, P, r, q, k, xo, f⟩ => by
  cases ds with
  | nil => unfold RepL at q; subst q; exact ⟨rfl, f sc hc k σ H m r .refl⟩
  | cons d ds => exact k.elim⟩
theorem cgs_cons {g : CGx} {gs : CGsx} (h1 : CG X W e g) (h2 : CGs X W es gs) (hs : (assignEach (e :: es) X.env).map (·.2) = assign e X.env :: (assignEach es X.env).map (·.2) := by rfl) : CGs X W (e :: es) (gCons' g gs) :=
  ⟨pgs_wk (pgs_cons h1.p h2.p hs) fun vs σ H Q ⟨en, sc, hc, m, E, ds, P, r, q, k, xo, f⟩ => by
    cases ds with
    | nil => exact k.elim
    | cons d ds =>
      unfold RepL at q
      obtain ⟨v, vr, rfl, q1, q2⟩ := q
      exact ⟨v, vr, rfl, en, sc, hc, m, E, d, _, r, q1, k, xo, fun sc1 hc1 k1 σ1 H1 m1 r1 s1 => ⟨en, sc1, hc1, m1, E, ds, P, r1, RepL.mono r.mu s1 _ _ q2, k1, xo, f.step s1⟩⟩⟩
/-- unpacking a tuple -/
def gTup' (n : Nat) (gs : CGsx) : CGx := fun E d sc hc P => match d with | .tup xs => xs.length = n ∧ gs E xs sc hc P | _ => False
theorem cg_t {gs : CGsx} {n k : Nat} (hc : X.calm = true) (h : CGs X W es gs) (hn : (assignEach es X.env).length = n := by rfl) (hst : (assignEach es X.env).findIdx? (·.1) = none := by rfl) : CG X W (.Tuple es k pos) (gTup' n gs) :=
  ⟨pg_wk (pg_tup hc h.p hn hst) fun v σ H Q ⟨en, sc, hc, m, E, d, P, r, q, k, xo, f⟩ => by
    cases d <;> try exact k.elim
    unfold Rep at q
    obtain ⟨p, vs, rfl, q1, q2⟩ := q
    exact ⟨p, vs, rfl, q1, by rw [← q2.length]; exact k.1, en, sc, hc, m, E, _, P, r, q2, k.2, xo, f⟩⟩
/-- unpacking a list -/
def gUnl' (n : Nat) (gs : CGsx) : CGx := fun E d sc hc P => match d with
  | .lst xs => xs.length = n ∧ gs E xs sc hc P
  | .ref a => oth (hc a) fun xs => xs.length = n ∧ gs E xs sc hc P
  | _ => False
theorem cg_l {gs : CGsx} {n k : Nat} (hc : X.calm = true) (h : CGs X W es gs) (hn : (assignEach es X.env).length = n := by rfl) (hst : (assignEach es X.env).findIdx? (·.1) = none := by rfl) : CG X W (.Tuple es k pos) (gUnl' n gs) :=
  ⟨pg_wk (pg_unl hc h.p hn hst) fun v σ H Q ⟨en, sc, hc, m, E, d, P, r, q, k, xo, f⟩ => by
    cases d <;> try exact k.elim
    · unfold Rep at q
      obtain ⟨p, vs, rfl, _, q1, q2⟩ := q
      exact ⟨p, vs, rfl, .of q1, by rw [← q2.length]; exact k.1, en, sc, hc, m, E, _, P, r, q2, k.2, xo, f⟩
    · unfold Rep at q
      subst q
      obtain ⟨xs, e, l, k⟩ := oth_of k
      obtain ⟨vs, q1, q2⟩ := r.heap _ _ e
      exact ⟨_, vs, rfl, .of q1, by rw [← q2.length]; exact l, en, sc, hc, m, E, _, P, r, q2, k, xo, f⟩⟩
/-- a change of a mutable list that is no slot's own -/
theorem Rs.chg {K : PySem.W.Frag} {en : En} {σ : L2.St} {H : Hp} {sc : List Sl} {hc : CH} {m : Ms} (r : Rs K en σ H sc hc m) {a : Addr} {ds es : List D} {ws : List V} (h : hc a = some ds) (q : RepL K H m es ws) :
    Rs K en σ (upd H a (.lst ws)) sc (updc hc a es) m ∧ Stp H m (upd H a (.lst ws)) m := by
  have ma := r.hm a ds h
  have st : Stp H m (upd H a (.lst ws)) m := ⟨fun p o e _ n => by rw [upd_ne (fun z => n (by rw [z]; exact ma))]; exact e, fun _ h => .inl h, fun p o e => upd_some e⟩
  refine ⟨⟨⟨⟨tabs_put r.tab (.inr (r.mu a ma)), fun p z => ?_, fun p ds' e => ?_, fun p ds' e => ?_⟩, r.emut, r.ehm, fun p o e t n => ?_, r.grow, r.hold, fun p ds' e => ?_, fun p o e => ?_⟩, fun i d e => ?_, fun i ds' e => ?_, r.sep, r.len⟩, st⟩
  · by_cases hp : p = a
    · subst hp; exact ⟨ws, upd_same⟩
    · rw [upd_ne hp]; exact r.mu p z
  · unfold updc at e
    by_cases hp : p = a
    · rw [hp]; exact ma
    · rw [if_neg hp] at e; exact r.hm p ds' e
  · unfold updc at e
    by_cases hp : p = a
    · rw [if_pos hp] at e; cases e
      subst hp
      exact ⟨ws, upd_same, RepL.mono r.mu st _ _ q⟩
    · rw [if_neg hp] at e
      obtain ⟨vs, e1, q1⟩ := r.heap p ds' e
      exact ⟨vs, by rw [upd_ne hp]; exact e1, RepL.mono r.mu st _ _ q1⟩
  · rw [upd_ne ?_]
    · exact r.keep p o e t n
    · rintro rfl
      rcases r.hgrow p ds h with y | y
      · exact y n
      · rw [e] at y; cases y
  · unfold updc at e
    by_cases hp : p = a
    · rw [hp]; exact r.hgrow a ds h
    · rw [if_neg hp] at e; exact r.hgrow p ds' e
  · by_cases hp : p = a
    · subst hp; rw [upd_same]; simp
    · rw [upd_ne hp]; exact r.live p o e
  · obtain ⟨v, e1, q1⟩ := r.slot i d e
    exact ⟨v, e1, Rep.mono r.mu st _ _ q1⟩
  · obtain ⟨p, vs, e1, mp, ep, hp, eH, q1⟩ := r.own i ds' e
    have hpa : p ≠ a := fun z => by rw [z, h] at hp; cases hp
    exact ⟨p, vs, e1, mp, ep, by unfold updc; rw [if_neg hpa]; exact hp, by rw [upd_ne hpa]; exact eH, RepL.mono r.mu st _ _ q1⟩
def gSub' (co ci : CEx) : CGx := fun E d sc hc P => co E sc hc fun o hc1 => ci E sc hc1 fun i hc2 => match o, i with
  | .ref a, .int k => oth (hc2 a) fun ds => oth (ixN ds.length k) fun j => P sc (updc hc2 a (ds.set j d))
  | _, _ => False
theorem cg_s {o i : Expr} {co ci : CEx} (ho : CE X W o co) (hi : CE X W i ci) (ha : ∀ v, assign (.Subscript o i pos) X.env v = (do
      let ov ← holding [v] (eval o X.env)
      let iv ← holding [v, ov] (eval i X.env)
      standAt pos
      holding [v, ov, iv] (setItem ov iv v)
      release [v, ov, iv] []) := by intro _; rfl) : CG X W (.Subscript o i pos) (gSub' co ci) :=
  ⟨pg_wk (pg_sub ho.p hi.p set_list ha) fun v σ H Q ⟨en, sc, hc, m, E, d, P, r, q, k, xo, f⟩ =>
    ⟨en, sc, hc, m, E, _, r, k, xo, fun x hc1 k1 v1 H1 m1 x1 q1 => ⟨en, sc, hc1, m1, E, _, r.call x1, k1, xo, fun y hc2 k2 v2 H2 m2 x2 q2 => by
      have r2 := (r.call x1).call x2
      have s1 := x1.stp
      have s2 := x2.stp
      cases x <;> try exact k2.elim
      cases y <;> try exact k2.elim
      obtain ⟨ds, e, k2⟩ := oth_of k2
      obtain ⟨j, ej, k3⟩ := oth_of k2
      unfold Rep at q1 q2
      subst q1; subst q2
      obtain ⟨vs, e1, rl⟩ := r2.heap _ _ e
      have qd := Rep.mono r.mu (s1.trans s2) _ _ q
      obtain ⟨r3, s3⟩ := r2.chg (es := ds.set j d) (ws := vs.set j v) e (RepL.set qd j rl)
      exact ⟨_, vs, _, j, rfl, rfl, e1, by rw [← rl.length]; exact ej, f _ _ k3 _ _ m2 r3 (s1.trans (s2.trans s3))⟩⟩⟩⟩
def cAsg (ce : CEx) (g : CGx) : CSx := fun C sc hc => ce C.xp sc hc fun d hc1 => g C.xp d sc hc1 fun sc2 hc2 => C.nx sc2 hc2
theorem asg_lift {g : CGx} {D : Ends} {σ : L2.St} {H : Hp} (h : LS X W (cAsg ce g) D σ H) : tAsg (LE X W ce) (LG X W g) D σ H := by
  obtain ⟨en, sc, hc, m, C, r, k, f⟩ := h
  exact ⟨en, sc, hc, m, C.xp, _, r, k, f.xp, fun d hc1 p v H1 m1 x1 q => ⟨en, sc, hc1, m1, C.xp, d, _, r.call x1, q, p, f.xp, f.nx.step x1.stp⟩⟩
theorem cs_asg {g : CGx} (he : CE X W e ce) (hg : CG X W tg g) (hs : swapsWithSole [tg] e pos.line X.env = pure false := by rfl) (hw : swappedStores [tg] e X.env = pure none := by rfl)
    (h1 : (assignEach [tg] X.env).map (·.2) = [assign tg X.env] := by rfl) : CS X W (.Assign [tg] e pos) (cAsg ce g) := ⟨ps_wk (ps_asg he.p hg.p hs hw h1) fun D σ H h => asg_lift h⟩
theorem cs_set {i : Nat} {x : Str} {p2 : Pos} (hN : X.N.Nodup) (he : CE X W e ce) (hi : X.N[i]? = some x := by rfl) (hx : Loc X.env.scope x := by first | exact Or.inl rfl | exact Or.inr rfl) (hs : swapsWith e (some (.Name x p2)) pos.line X.env = pure false := by rfl) (hf : X.fn x = true ∨ X.env.scope.names.lookup x = some .local := by first | exact .inl rfl | exact .inr rfl) :
    CS X W (.Assign [.Name x p2] e pos) (cAsg ce (gN i)) := ⟨ps_wk (ps_set hN hi hx he.p hs hf) fun D σ H ⟨en, sc, hc, m, C, r, k, f⟩ =>
  ⟨en, sc, hc, m, C.xp, _, r, k, f.xp, fun d hc1 p v H1 m1 x1 q => f.nx _ hc1 p _ H1 m1 ((r.call x1).put i q) x1.stp⟩⟩

/-! ### lists that a slot alone holds -/
theorem Rs.mine {K : PySem.W.Frag} {en : En} {σ : L2.St} {H : Hp} {sc : List Sl} {hc : CH} {m : Ms} (r : Rs K en σ H sc hc m) (i : Nat) {p : Addr} {ds : List D} {vs : List V} (n : H p = none) (q : RepL K H m ds vs) :
    ∃ m', Rs K en (σ.set i (some (.ref p))) (upd H p (.lst vs)) (sc.set i (.own ds)) hc m' ∧ Stp H m (upd H p (.lst vs)) m' := by
  have st : Stp H m (upd H p (.lst vs)) (fun a => m a ∨ a = p) := ⟨fun a o e _ _ => same_upd n a o e, fun a z => z.elim .inl fun e => .inr (by rw [e]; exact n), fun a o e => by rw [same_upd n a o e]; simp⟩
  have e0 : en.H p = none := by
    cases e : en.H p with
    | none => rfl
    | some o => exact absurd n (r.live p o e)
  have hn := hc_none r.toWd n
  refine ⟨_, ⟨⟨⟨tabs_put r.tab (.inl n), fun a z => ?_, fun a ds' e => .inl (r.hm a ds' e), fun a ds' e => ?_⟩, r.emut, r.ehm, fun a o e t h => same_upd n a o (r.keep a o e t h), fun a z => ?_, fun a z h => .inl (r.hold a z h), r.hgrow, fun a o e => ?_⟩, fun j d e => ?_, fun j ds' e => ?_, fun j l ds1 ds2 a e1 e2 e3 e4 => ?_, by rw [List.length_set, List.length_set]; exact r.len⟩, st⟩
  · rcases z with z | rfl
    · obtain ⟨ws, e⟩ := r.mu a z
      exact ⟨ws, same_upd n _ _ e⟩
    · exact ⟨vs, upd_same⟩
  · obtain ⟨ws, e1, q1⟩ := r.heap a ds' e
    exact ⟨ws, same_upd n _ _ e1, RepL.mono r.mu st _ _ q1⟩
  · rcases z with z | rfl
    · exact r.grow a z
    · exact .inr e0
  · cases e2 : H a with
    | none => exact absurd e2 (r.live a o e)
    | some u => rw [same_upd n a u e2]; simp
  · by_cases h : i = j
    · subst h
      by_cases l : i < sc.length
      · rw [List.getElem?_set_self l] at e; cases e
      · rw [List.getElem?_eq_none (by rw [List.length_set]; omega)] at e; cases e
    · rw [List.getElem?_set_ne h] at e ⊢
      obtain ⟨v, e1, q1⟩ := r.slot j d e
      exact ⟨v, e1, Rep.mono r.mu st _ _ q1⟩
  · by_cases h : i = j
    · subst h
      by_cases l : i < sc.length
      · rw [List.getElem?_set_self l] at e; cases e
        exact ⟨p, vs, List.getElem?_set_self (by rw [← r.len]; exact l), .inr rfl, e0, hn, upd_same, RepL.mono r.mu st _ _ q⟩
      · rw [List.getElem?_eq_none (by rw [List.length_set]; omega)] at e; cases e
    · rw [List.getElem?_set_ne h] at e ⊢
      obtain ⟨a, ws, e1, ma, ea, ha, eH, q1⟩ := r.own j ds' e
      exact ⟨a, ws, e1, .inl ma, ea, ha, same_upd n _ _ eH, RepL.mono r.mu st _ _ q1⟩
  · have other : ∀ (x : Nat) (ds' : List D), x ≠ i → (sc.set i (.own ds))[x]? = some (Sl.own ds') → (σ.set i (some (V.ref p)))[x]? = some (some (V.ref a)) → sc[x]? = some (Sl.own ds') ∧ σ[x]? = some (some (V.ref a)) ∧ a ≠ p := fun x ds' hx f1 f2 => by
      rw [List.getElem?_set_ne (Ne.symm hx)] at f1 f2
      obtain ⟨b, ws, g1, _, _, _, gH, _⟩ := r.own x ds' f1
      rw [f2] at g1; cases g1
      exact ⟨f1, f2, fun z => by rw [z, n] at gH; cases gH⟩
    have self : ∀ (x : Nat), x = i → (σ.set i (some (V.ref p)))[x]? = some (some (V.ref a)) → a = p := fun x hx f => by
      subst hx
      by_cases l : x < σ.length
      · rw [List.getElem?_set_self l] at f; cases f; rfl
      · rw [List.getElem?_eq_none (by rw [List.length_set]; omega)] at f; cases f
    by_cases hj : j = i
    · by_cases hl : l = i
      · rw [hj, hl]
      · exact absurd (self j hj e3) (other l ds2 hl e2 e4).2.2
    · by_cases hl : l = i
      · exact absurd (self l hl e4) (other j ds1 hj e1 e3).2.2
      · obtain ⟨f1, f2, _⟩ := other j ds1 hj e1 e3
        obtain ⟨g1, g2, _⟩ := other l ds2 hl e2 e4
        exact r.sep j l _ _ a f1 g1 f2 g2
/-- x = [..], a list that grows -/
def cSetO (i : Nat) (ca : CAx) : CSx := fun C sc hc => ca C.xp sc hc fun ds hc1 => ds.length ≤ sizeLine ∧ C.nx (sc.set i (.own ds)) hc1
theorem cs_setO {i : Nat} {x : Str} {p2 p3 : Pos} (hN : X.N.Nodup) (ha : CA X W es ca) (hi : X.N[i]? = some x := by rfl) (hx : Loc X.env.scope x := by first | exact Or.inl rfl | exact Or.inr rfl) (hs : swapsWith (.List es p3) (some (.Name x p2)) pos.line X.env = pure false := by rfl) (hf : X.fn x = true ∨ X.env.scope.names.lookup x = some .local := by first | exact .inl rfl | exact .inr rfl) :
    CS X W (.Assign [.Name x p2] (.List es p3) pos) (cSetO i ca) := ⟨ps_wk (ps_set hN hi hx (pe_lst ha.p) hs hf) fun D σ H ⟨en, sc, hc, m, C, r, k, f⟩ =>
  ⟨en, sc, hc, m, C.xp, _, r, k, f.xp, fun ds hc1 p vs H1 m1 x1 q => ⟨by rw [← q.length]; exact p.1, fun a n => by
    obtain ⟨m2, r2, s2⟩ := (r.call x1).mine i n q
    exact f.nx _ hc1 p.2 _ _ m2 r2 (x1.stp.trans s2)⟩⟩⟩
/-- the owned list of a slot with other items -/
theorem Rs.grown {K : PySem.W.Frag} {en : En} {σ : L2.St} {H : Hp} {sc : List Sl} {hc : CH} {m : Ms} (r : Rs K en σ H sc hc m) {i : Nat} {p : Addr} {ds es : List D} {ws : List V} (e : sc[i]? = some (Sl.own ds)) (ep : σ[i]? = some (some (V.ref p))) (q : RepL K H m es ws) :
    Rs K en σ (upd H p (.lst ws)) (sc.set i (.own es)) hc m ∧ Stp H m (upd H p (.lst ws)) m := by
  obtain ⟨a, vs, e1, ma, h0, h1, eH, q1⟩ := r.own i ds e
  rw [ep] at e1; cases e1
  have st : Stp H m (upd H p (.lst ws)) m := ⟨fun b o e _ n => by rw [upd_ne (fun z => n (by rw [z]; exact ma))]; exact e, fun _ h => .inl h, fun p o e => upd_some e⟩
  have li : i < sc.length := by
    by_cases l : i < sc.length
    · exact l
    · rw [List.getElem?_eq_none (by omega)] at e; cases e
  refine ⟨⟨⟨⟨tabs_put r.tab (.inr (r.mu p ma)), fun b z => ?_, r.hm, fun b ds' e' => ?_⟩, r.emut, r.ehm, fun b o e' t n => ?_, r.grow, r.hold, r.hgrow, fun b o e' => ?_⟩, fun j d e' => ?_, fun j ds' e' => ?_, fun j l ds1 ds2 b f1 f2 f3 f4 => ?_, by rw [List.length_set]; exact r.len⟩, st⟩
  · by_cases hp : b = p
    · subst hp; exact ⟨ws, upd_same⟩
    · rw [upd_ne hp]; exact r.mu b z
  · have hp : b ≠ p := fun z => by rw [z, h1] at e'; cases e'
    obtain ⟨us, e2, q2⟩ := r.heap b ds' e'
    exact ⟨us, by rw [upd_ne hp]; exact e2, RepL.mono r.mu st _ _ q2⟩
  · rw [upd_ne (fun z => by rw [z, h0] at e'; cases e')]
    exact r.keep b o e' t n
  · by_cases hp : b = p
    · subst hp; rw [upd_same]; simp
    · rw [upd_ne hp]; exact r.live b o e'
  · by_cases h : i = j
    · subst h; rw [List.getElem?_set_self li] at e'; cases e'
    · rw [List.getElem?_set_ne h] at e'
      obtain ⟨v, e2, q2⟩ := r.slot j d e'
      exact ⟨v, e2, Rep.mono r.mu st _ _ q2⟩
  · by_cases h : i = j
    · subst h
      rw [List.getElem?_set_self li] at e'; cases e'
      exact ⟨p, ws, ep, ma, h0, h1, upd_same, RepL.mono r.mu st _ _ q⟩
    · rw [List.getElem?_set_ne h] at e'
      obtain ⟨b, us, e2, mb, b0, b1, bH, q2⟩ := r.own j ds' e'
      have hbp : b ≠ p := fun z => h (r.sep i j ds ds' p e e' ep (by rw [← z]; exact e2))
      exact ⟨b, us, e2, mb, b0, b1, by rw [upd_ne hbp]; exact bH, RepL.mono r.mu st _ _ q2⟩
  · have back : ∀ (x : Nat) (ds' : List D), (sc.set i (.own es))[x]? = some (Sl.own ds') → ∃ ds'', sc[x]? = some (Sl.own ds'') := fun x ds' g => by
      by_cases h : i = x
      · subst h; exact ⟨ds, e⟩
      · rw [List.getElem?_set_ne h] at g; exact ⟨ds', g⟩
    obtain ⟨_, g1⟩ := back j _ f1
    obtain ⟨_, g2⟩ := back l _ f2
    exact r.sep j l _ _ b g1 g2 f3 f4
/-- x.append(e), x an owned list -/
def cApp (i : Nat) (ce : CEx) : CSx := fun C sc hc => match lookO sc i with | some ds => ds.length < sizeLine ∧ ce C.xp sc hc fun d hc1 => C.nx (sc.set i (.own (ds ++ [d]))) hc1 | none => False
theorem cs_app {x : Str} {px pa : Pos} (i : Nat) (he : CE X W e ce) (hN : X.N[i]? = some x := by rfl) (hv : Vis X.env.scope x := by first | exact Or.inl rfl | exact Or.inr (Or.inl rfl) | exact Or.inr (Or.inr rfl)) (hd : (x == ("__debug__" : Str)) = false := by decide) (hcd : (x == ("__classdict__" : Str)) = false := by decide)
    (hs : starEach [e] X.env = (false, eval e X.env) :: starEach [] X.env := by rfl)
    (hb : attributeBase (.Name x px) "append" X.env (eval (.Name x px) X.env) = eval (.Name x px) X.env := by rfl) {pc : Pos}
    (hfew : ((backTo pc (starEach [e] X.env)).all (fun x => !x.1) && (backToKw pc (keywordEach [] X.env)).all (fun x => x.1.isSome)
      && decide ([e].length + ([] : List Keyword).length + (if ([] : List Keyword).isEmpty then 0 else 1) < 30)) = true := by rfl)
    (hl : (pa.endLine == pc.line) = true := by rfl)
    (hsw : swapsWith (.Call (.Attribute (.Name x px) "append" pa) [e] [] pc) none pos.line X.env = pure false := by rfl) : CS X W (.Expr (.Call (.Attribute (.Name x px) "append" pa) [e] [] pc) pos) (cApp i ce) :=
  ⟨ps_wk (ps_expr (pe_bm PySem.F.plainAttrs_list PySem.F.slot_list_append PySem.F.type_list_append mt_append (pv i hN hv hd hcd) (pa_cons he.p pa_nil hs) hb hfew hl hs) hsw) fun D σ H ⟨en, sc, hc, m, C, r, k, f⟩ => by
    unfold cApp at k
    split at k
    case h_2 => exact k.elim
    rename_i ds e0
    obtain ⟨lt, k⟩ := k
    have e' := lookO_get e0
    obtain ⟨p, vs, e1, ma, h0, h1, eH, q1⟩ := r.own i ds e'
    refine ⟨.ref p, e1, .inl ⟨rfl, vs, .of eH⟩, en, sc, hc, m, C.xp, _, r, k, f.xp, fun d hc1 pp v H1 m1 x1 q => ?_⟩
    have r1 := r.call x1
    have s1 := x1.stp
    obtain ⟨p2, vs2, e2, _, _, _, eH2, q2⟩ := r1.own i ds e'
    rw [e1] at e2; cases e2
    obtain ⟨r2, s2⟩ := r1.grown e' e1 (q2.append (RepL.one q))
    exact ⟨p, vs2, v, rfl, rfl, eH2, by rw [← q2.length]; exact lt, f.nx _ hc1 pp _ _ m1 r2 (s1.trans s2)⟩⟩
/-- the owned list becomes a value -/
theorem Rs.give {K : PySem.W.Frag} {en : En} {σ : L2.St} {H : Hp} {sc : List Sl} {hc : CH} {m : Ms} (r : Rs K en σ H sc hc m) {i : Nat} {ds : List D} (e : sc[i]? = some (Sl.own ds)) : ∃ m', Rs K en σ H (sc.set i (.val (.lst ds))) hc m' ∧ Stp H m H m' := by
  obtain ⟨p, vs, e1, ma, h0, h1, eH, q1⟩ := r.own i ds e
  obtain ⟨x, st⟩ := r.toEx.drop h0 h1
  have li : i < sc.length := by
    by_cases l : i < sc.length
    · exact l
    · rw [List.getElem?_eq_none (by omega)] at e; cases e
  have ne : ∀ (j : Nat) (ds' : List D), (sc.set i (.val (.lst ds)))[j]? = some (Sl.own ds') → j ≠ i ∧ sc[j]? = some (Sl.own ds') := fun j ds' e' => by
    by_cases h : i = j
    · subst h; rw [List.getElem?_set_self li] at e'; cases e'
    · rw [List.getElem?_set_ne h] at e'; exact ⟨fun z => h z.symm, e'⟩
  refine ⟨_, ⟨x, fun j d e' => ?_, fun j ds' e' => ?_, fun j l ds1 ds2 b f1 f2 f3 f4 => r.sep j l _ _ b (ne j _ f1).2 (ne l _ f2).2 f3 f4, by rw [List.length_set]; exact r.len⟩, st⟩
  · by_cases h : i = j
    · subst h
      rw [List.getElem?_set_self li] at e'; cases e'
      refine ⟨_, e1, ?_⟩
      unfold Rep
      exact ⟨p, vs, rfl, fun z => z.2 rfl, eH, RepL.mono r.mu st _ _ q1⟩
    · rw [List.getElem?_set_ne h] at e'
      obtain ⟨v, e2, q2⟩ := r.slot j d e'
      exact ⟨v, e2, Rep.mono r.mu st _ _ q2⟩
  · obtain ⟨hj, e2⟩ := ne j ds' e'
    obtain ⟨b, us, e3, mb, b0, b1, bH, q2⟩ := r.own j ds' e2
    refine ⟨b, us, e3, ⟨mb, fun z => hj (r.sep j i ds' ds p e2 e (by rw [← z]; exact e3) e1)⟩, b0, b1, bH, RepL.mono r.mu st _ _ q2⟩
/-- ghost: the slot's list is a value from here on -/
def cGive (i : Nat) (c : CSx) : CSx := fun C sc hc => match lookO sc i with | some ds => c C (sc.set i (.val (.lst ds))) hc | none => False
theorem cs_give (i : Nat) (h : CS X W st c) : CS X W st (cGive i c) := ⟨ps_wk h.p fun D σ H ⟨en, sc, hc, m, C, r, k, f⟩ => by
  unfold cGive at k
  split at k
  case h_2 => exact k.elim
  rename_i ds e
  obtain ⟨m', r', s'⟩ := r.give (lookO_get e)
  exact ⟨en, _, hc, m', C, r', k, f.step s'⟩⟩

/-! ### two, three names at once -/
def cPar (i j : Nat) (ca : CAx) : CSx := fun C sc hc => ca C.xp sc hc fun ds hc1 => match ds with | [x, y] => C.nx ((sc.set i (.val x)).set j (.val y)) hc1 | _ => False
theorem cs_par {i j : Nat} {x y : Str} {a b : Expr} {px py pt : Pos} {kt k2 : Nat} {p2 : Pos} (hc : X.calm = true) (hN : X.N.Nodup) (ha : CA X W [a, b] ca) (hw : swappedStores [.Tuple [.Name x px, .Name y py] kt pt] (.Tuple [a, b] k2 p2) X.env = pure (some [x, y]) := by rfl) (hi : X.N[i]? = some x := by rfl) (hj : X.N[j]? = some y := by rfl) (hij : i ≠ j := by decide)
    (hx : X.env.scope.names.lookup x = some .local := by rfl) (hy : X.env.scope.names.lookup y = some .local := by rfl)
    (hs : swapsWithSole [.Tuple [.Name x px, .Name y py] kt pt] (.Tuple [a, b] k2 p2) pos.line X.env = pure false := by rfl) : CS X W (.Assign [.Tuple [.Name x px, .Name y py] kt pt] (.Tuple [a, b] k2 p2) pos) (cPar i j ca) :=
  ⟨ps_wk (ps_par hc hN hi hj hij hx hy ha.p hw hs) fun D σ H ⟨en, sc, hc, m, C, r, k, f⟩ =>
    ⟨en, sc, hc, m, C.xp, _, r, k, f.xp, fun ds hc1 p vs H1 m1 x1 q => by
      have r1 := r.call x1
      have s1 := x1.stp
      split at p
      · unfold RepL at q
        obtain ⟨v, _, rfl, q1, q⟩ := q
        unfold RepL at q
        obtain ⟨w, _, rfl, q2, q⟩ := q
        unfold RepL at q
        subst q
        exact ⟨v, w, rfl, f.nx _ hc1 p _ H1 m1 ((r1.put i q1).put j q2) s1⟩
      · exact p.elim⟩⟩
def cPar3 (i j l : Nat) (ca : CAx) : CSx := fun C sc hc => ca C.xp sc hc fun ds hc1 => match ds with | [x, y, z] => C.nx (((sc.set i (.val x)).set j (.val y)).set l (.val z)) hc1 | _ => False
theorem cs_par3 {i j l : Nat} {x y z : Str} {a b c : Expr} {px py pz pt : Pos} {kt k2 : Nat} {p2 : Pos} (hc : X.calm = true) (hN : X.N.Nodup) (ha : CA X W [a, b, c] ca) (hw : swappedStores [.Tuple [.Name x px, .Name y py, .Name z pz] kt pt] (.Tuple [a, b, c] k2 p2) X.env = pure (some [x, y, z]) := by rfl) (hi : X.N[i]? = some x := by rfl) (hj : X.N[j]? = some y := by rfl) (hl : X.N[l]? = some z := by rfl) (hij : i ≠ j := by decide) (hil : i ≠ l := by decide) (hjl : j ≠ l := by decide)
    (hx : X.env.scope.names.lookup x = some .local := by rfl) (hy : X.env.scope.names.lookup y = some .local := by rfl) (hz : X.env.scope.names.lookup z = some .local := by rfl)
    (hs : swapsWithSole [.Tuple [.Name x px, .Name y py, .Name z pz] kt pt] (.Tuple [a, b, c] k2 p2) pos.line X.env = pure false := by rfl) : CS X W (.Assign [.Tuple [.Name x px, .Name y py, .Name z pz] kt pt] (.Tuple [a, b, c] k2 p2) pos) (cPar3 i j l ca) :=
  ⟨ps_wk (ps_par3 hc hN hi hj hl hij hil hjl hx hy hz ha.p hw hs) fun D σ H ⟨en, sc, hc, m, C, r, k, f⟩ =>
    ⟨en, sc, hc, m, C.xp, _, r, k, f.xp, fun ds hc1 p vs H1 m1 x1 q => by
      have r1 := r.call x1
      have s1 := x1.stp
      split at p
      · unfold RepL at q
        obtain ⟨v, _, rfl, q1, q⟩ := q
        unfold RepL at q
        obtain ⟨w, _, rfl, q2, q⟩ := q
        unfold RepL at q
        obtain ⟨w3, _, rfl, q3, q⟩ := q
        unfold RepL at q
        subst q
        exact ⟨v, w, w3, rfl, f.nx _ hc1 p _ H1 m1 (((r1.put i q1).put j q2).put l q3) s1⟩
      · exact p.elim⟩⟩
/-- x op= e -/
def cAug (i : Nat) (f : O2) (ce : CEx) : CSx := fun C sc hc => match look sc i with | some x => ce C.xp sc hc fun d hc1 => f x d hc1 fun z => C.nx (sc.set i (.val z)) hc1 | none => False
theorem cs_aug {i : Nat} {x : Str} {p2 : Pos} {op : Operator} {f : O2} (hN : X.N.Nodup) (he : CE X W e ce) (ho : PIp X op (LV2 X.K f)) (hi : X.N[i]? = some x := by rfl) (hx : Loc X.env.scope x := by first | exact Or.inl rfl | exact Or.inr rfl) (hf : X.fn x = true ∨ X.env.scope.names.lookup x = some .local := by first | exact .inl rfl | exact .inr rfl) :
    CS X W (.AugAssign (.Name x p2) op e pos) (cAug i f ce) := ⟨ps_wk (ps_aug hN hi hx he.p ho hf) fun D σ H ⟨en, sc, hc, m, C, r, k, fo⟩ => by
  unfold cAug at k
  split at k
  case h_2 => exact k.elim
  rename_i y e0
  obtain ⟨v, e1, q0⟩ := r.slot i y (look_get e0)
  refine ⟨v, e1, en, sc, hc, m, C.xp, _, r, k, fo.xp, fun d hc1 p w H1 m1 x1 q => ⟨hc1, m1, y, d, _, x1.toWd, (Rep.mono r.mu x1.stp _ _ q0).w, q.w, p, fun z pz v' H' sm q' => ?_⟩⟩
  exact fo.nx _ hc1 pz _ H' m1 (((r.call x1).same sm).put i q') (x1.stp.trans (.same sm))⟩
theorem ip_intD0 {op : Operator} {g : Int → Int → Int} (ho : PIp X op (ipI g)) : PIp X op (LV2 X.K (intD0 g)) := by
  intro pins s σ H x y v u Q I rx ry h
  obtain ⟨hc, m, dx, dy, P, w, h1, h2, f, fin⟩ := h
  cases dx <;> cases dy <;> try exact f.elim
  unfold RepW Rep at h1 h2
  subst h1; subst h2
  exact ho pins s σ H _ _ v u Q I rx ry ⟨_, _, rfl, rfl, fin _ f _ _ (.refl H) rep_int⟩
theorem ip_addI : PIp X .Add (LV2 X.K (intD0 fun i j => i + j)) := ip_intD0 ip_add
theorem ip_subI : PIp X .Sub (LV2 X.K (intD0 fun i j => i - j)) := ip_intD0 ip_sub

/-! ### while -/
def whN (t : CTx) (c : CSx) : Nat → CSx
  | 0 => fun _ _ _ => False
  | n + 1 => fun C sc hc => t C.xp sc hc fun b hc1 => if b = true then c { nx := fun s h => whN t c n C s h, ct := fun s h => whN t c n C s h, bk := C.nx, rt := C.rt, xp := C.xp } sc hc1 else C.nx sc hc1
def cWhile (t : CTx) (c : CSx) : CSx := fun C sc hc => ∃ n, whN t c n C sc hc
theorem cs_while (hp : PassesOwn (model X.prog X.w) X.A X.env X.xe) (ht : CT X W e ct) (hb : CSs X W body c) : CS X W (.While e body [] pos) (cWhile ct c) := ⟨ps_wk (ps_while hp ht.p hb.p) fun D σ H ⟨en, sc, hc, m, C, r, ⟨n, k⟩, f⟩ => by
  refine ⟨fun n σ' H' => ∃ sc' hc' m', Rs X.K en σ' H' sc' hc' m' ∧ Stp H m H' m' ∧ whN ct c n C sc' hc', ⟨n, sc, hc, m, r, .refl, k⟩, fun n σ1 H1 ⟨sc1, hc1, m1, r1, s1, k1⟩ => ?_⟩
  cases n with
  | zero => exact k1.elim
  | succ n =>
    refine ⟨en, sc1, hc1, m1, C.xp, _, r1, k1, f.xp, fun b hc2 p H2 m2 x2 => ?_⟩
    have r2 := r1.call x2
    have s12 := s1.trans x2.stp
    cases b with
    | true =>
      rw [if_pos rfl] at p
      refine iteT ⟨_, fun σ' H' h => h, en, sc1, hc2, m2, _, r2, p, ⟨fun sc' hc' p' σ' H' m' r' s' => ⟨n, Nat.lt_succ_self n, sc', hc', m', r', s12.trans s', p'⟩, f.nx.step s12, fun sc' hc' p' σ' H' m' r' s' => ⟨n, Nat.lt_succ_self n, sc', hc', m', r', s12.trans s', p'⟩, f.rt, f.xp⟩⟩
    | false =>
      rw [if_neg Bool.false_ne_true] at p
      exact iteF (f.nx sc1 hc2 p σ1 H2 m2 r2 s12)⟩

/-! ### ranges of any ends -/
theorem longTurn {P : Program} {w : World} {K : PySem.W.Frag} {tg : Expr} (b0 : Addr) (l : Int) (n : Nat) : Turn P w K tg (Itr l n) [b0] b0 (fun i g => IsLongIter g b0 (l + (i : Nat) * 1) ((n : Int) - (i : Nat)) 1) where
  mem := List.mem_singleton.mpr rfl
  obj := fun i g st b hb => by
    cases List.mem_singleton.mp hb
    refine ⟨_, st, fun v z => ?_⟩
    have z2 : Data.fields _ = Data.cell v := z
    cases z2
  keep := fun i g g' st k => k b0 (List.mem_singleton.mpr rfl) _ st
  item := fun X hP hw hK hc i pins s σ H E I hf st hg => by
    subst hP; subst hw; subst hK
    obtain ⟨f0, f1, f2, f3, f4, f5⟩ := hf b0 (List.mem_singleton.mpr rfl)
    refine (Walks.longrange (prog := X.prog) (w := X.w) (I.ok.hd hc) b0 l 1 n).item i s _ _ hg st fun v g tk hv st2 kk => ?_
    obtain ⟨t, rfl⟩ := hv
    have I2 : Inv X pins σ H { s with heap := g, toks := tk } := I.turned (fun b o hb e => kk b o (fun z => hb (List.mem_singleton.mp z)) e) f0 f1 f3 f4 f5
    refine ⟨_, rfl, go_of (s := { s with heap := g, toks := tk }) (n := "longrange_iterator") st2 rfl rfl (by decide) ⟨.int (l + i), H, I2, ⟨t, ?_⟩, ⟨rfl, rfl⟩, st2, fun b hb => (hf b hb).1⟩⟩
    rw [Int.mul_one]
  done := fun X hP hw hK hc i pins s σ H E I hf st hg => by
    subst hP; subst hw; subst hK
    obtain ⟨f0, f1, f2, f3, f4, f5⟩ := hf b0 (List.mem_singleton.mpr rfl)
    refine wpAny_pyNext_long_end (I.ok.hd hc) st ?_ fun g eb => ⟨rfl, I.turned (t' := s.toks) (fun b o hb e => eb b o hb e) f0 f1 f3 f4 f5⟩
    have : n ≤ i := hg
    omega
  self := fun _ _ _ _ _ st h => wpAny_pyIter_longiter st h
theorem rangeAny {pins : List (Addr × Obj)} {σ : L2.St} {H : Hp} {s : Shared} {R : It → Hp → Prop} {E : Value → Shared → Prop} {l u : Int} {t1 t2 t3 : Tok} {tk : Nat} (I : Inv X pins σ H s)
    (q : R (Itr l (u - l).toNat) H) : wpAny (model X.prog X.w) X.A (pyIter (.ref s.heap.objs.size)) (PIE X pins σ tg R) E { s with heap := s.heap.push { cls := .type "range", data := .fields #[.int l t1, .int u t2, .int 1 t3] }, toks := tk } := by
  have I1 : Inv X pins σ H { s with heap := s.heap.push { cls := .type "range", data := .fields #[.int l t1, .int u t2, .int 1 t3] }, toks := tk } := I.kept fun b o e => Heap.get?_push_of_some _ e
  have e1 : l + ((0 : Nat) : Int) * 1 = l := by omega
  have e2 : (((u - l).toNat : Nat) : Int) - ((0 : Nat) : Int) = Builtin.Range.rangeSize l u 1 := by rw [rangeSize_one]; split <;> omega
  cases hs : Builtin.Range.small l u 1 with
  | true =>
    refine wpAny_pyIter_range (IsRange.new ..) hs ?_
    refine ⟨_, [_], _, _, H, rfl, I1.kept (t' := tk) fun b o e => Heap.get?_push_of_some _ e, turn_range _ l (u - l).toNat, ?_, fun b hb => ?_, q⟩
    · show IsRangeIter _ _ (l + ((0 : Nat) : Int) * 1) ((((u - l).toNat : Nat) : Int) - ((0 : Nat) : Int)) 1
      rw [e1, e2]
      exact Heap.get?_push_size _ rfl
    · cases List.mem_singleton.mp hb
      exact I1.fpOk (Nat.le_refl _) (I1.hok.fresh (Nat.le_refl _))
  | false =>
    refine wpAny_pyIter_longrange (IsRange.new ..) hs ?_
    refine ⟨_, [_], _, _, H, rfl, I1.kept (t' := tk) fun b o e => Heap.get?_push_of_some _ e, longTurn _ l (u - l).toNat, ?_, fun b hb => ?_, q⟩
    · show IsLongIter _ _ (l + ((0 : Nat) : Int) * 1) ((((u - l).toNat : Nat) : Int) - ((0 : Nat) : Int)) 1
      rw [e1, e2]
      exact Heap.get?_push_size _ rfl
    · cases List.mem_singleton.mp hb
      exact I1.fpOk (Nat.le_refl _) (I1.hok.fresh (Nat.le_refl _))
def tR1 (ta : L2.TA) : TI := fun σ H R => ta σ H fun vs H1 => ∃ j : Int, vs = [.int j] ∧ R (Itr 0 j.toNat) H1
def tR2 (ta : L2.TA) : TI := fun σ H R => ta σ H fun vs H1 => ∃ i j : Int, vs = [.int i, .int j] ∧ R (Itr i (j - i).toNat) H1
theorem piR1 {a : Expr} {ta : L2.TA} {p pos : Pos} (hg : Gl X "range") (hm : X.mg "range" = none) (ha : PA X [a] ta) (hs : starEach [a] X.env = [(false, eval a X.env)]) : PI X tg (.Call (.Name "range" p) [a] [] pos) (tR1 ta) := by
  refine ⟨fun pins s σ H R I h => Call_ (ld_blt I hg hm boot_range (PyProof.Rows.callWith_type1 (thn (ha.run pos pins s σ H _ I h) fun us s1 ⟨vs, H1, I1, r1, q1⟩ => ?_) hs rfl))⟩
  obtain ⟨j, rfl, q⟩ := q1
  obtain _ | ⟨r, rr⟩ := r1
  cases rr
  obtain ⟨t, rfl⟩ := r
  refine call_range_1 (rangeAny I1 ?_)
  rw [Int.sub_zero]
  exact q
theorem piR2 {a b : Expr} {ta : L2.TA} {p pos : Pos} (hg : Gl X "range") (hm : X.mg "range" = none) (ha : PA X [a, b] ta) (hs : starEach [a, b] X.env = [(false, eval a X.env), (false, eval b X.env)]) (hs2 : starEach [b] X.env = [(false, eval b X.env)]) :
    PI X tg (.Call (.Name "range" p) [a, b] [] pos) (tR2 ta) := by
  refine ⟨fun pins s σ H R I h => Call_ (ld_blt I hg hm boot_range (PyProof.Rows.callWith_type1 (thn (ha.run pos pins s σ H _ I h) fun us s1 ⟨vs, H1, I1, r1, q1⟩ => ?_) (by rw [hs, hs2]) (by rw [hs2]; rfl)))⟩
  obtain ⟨i, j, rfl, q⟩ := q1
  obtain _ | ⟨r, rr⟩ := r1
  obtain _ | ⟨r', rr⟩ := rr
  cases rr
  obtain ⟨t, rfl⟩ := r
  obtain ⟨t', rfl⟩ := r'
  exact call_range_2 (rangeAny I1 q)
/-! ### for -/
def Yields (K : PySem.W.Frag) (J : It) (ds : List D) (H0 : Hp) (m0 : Ms) : Prop := ∀ (H : Hp) (m : Ms), MutOk H m → Stp H0 m0 H m → ∀ i : Nat,
  (∀ d, ds[i]? = some d → J.go i H ∧ ∀ x H', J.yld i H x H' → Same H H' ∧ Rep K H' m d x) ∧ (ds.length ≤ i → J.stop i H)
abbrev CIx := XP → List Sl → CH → (List D → CH → Prop) → Prop
def LI (X : Cx) (W : WX) (c : CIx) : TI := fun σ H R => ∃ en sc hc m E P, Rs X.K en σ H sc hc m ∧ c E sc hc P ∧ XOk X W en E ∧
  ∀ ds hc', P ds hc' → ∀ J H' m', Ex X.K ⟨H, hc, m⟩ H' hc' m' → Yields X.K J ds H' m' → R J H'
structure CI (X : Cx) (W : WX) (tg e : Expr) (c : CIx) : Prop where
  p : PI X tg e (LI X W c)
theorem pi_wk {X : Cx} {tg e : Expr} {t t' : TI} (h : PI X tg e t) (g : ∀ σ H Q, t' σ H Q → t σ H Q) : PI X tg e t' := ⟨fun pins s σ H Q I q => h.run pins s σ H Q I (g σ H Q q)⟩
def forW (g : CGx) (c : CSx) : List D → CSx
  | [] => fun C sc hc => C.nx sc hc
  | d :: ds => fun C sc hc => g C.xp d sc hc fun sc1 hc1 => c { nx := fun s h => forW g c ds C s h, ct := fun s h => forW g c ds C s h, bk := C.nx, rt := C.rt, xp := C.xp } sc1 hc1
def cFor (ci : CIx) (g : CGx) (c : CSx) : CSx := fun C sc hc => ci C.xp sc hc fun ds hc1 => forW g c ds C sc hc1
theorem cs_for {ci : CIx} {g : CGx} (hp : PassesOwn (model X.prog X.w) X.A X.env X.xe) (hcl : X.calm = true) (hi : CI X W tg iter ci) (hg : CG X W tg g) (hb : CSs X W body c) (hs : ∀ x, foldedSetIterable iter X.env x = pure x := by intro _; rfl) : CS X W (.For tg iter body [] pos) (cFor ci g c) :=
  ⟨ps_wk (ps_for hp hcl hi.p hg.p hb.p hs) fun D σ H ⟨en, sc, hc, m, C, r, k, f⟩ => by
    refine ⟨en, sc, hc, m, C.xp, _, r, k, f.xp, fun ds hc0 k0 J H0 m0 x0 yl => ?_⟩
    have r0 := r.call x0
    have s0 := x0.stp
    refine ⟨fun i mm σ' H' => ∃ sc' hc' m', Rs X.K en σ' H' sc' hc' m' ∧ Stp H0 m0 H' m' ∧ mm = ds.length - i ∧ i ≤ ds.length ∧ forW g c (ds.drop i) C sc' hc', ⟨_, sc, hc0, m0, r0, .refl, rfl, Nat.zero_le _, k0⟩, ?_⟩
    rintro i mm σ1 H1 ⟨sc1, hc1, m1, r1, s1, rfl, hi, k1⟩
    obtain ⟨yg, ys⟩ := yl H1 m1 r1.mu s1 i
    by_cases lt : i < ds.length
    · rw [List.drop_eq_getElem_cons lt] at k1
      obtain ⟨go, yy⟩ := yg _ (List.getElem?_eq_getElem lt)
      refine .inr ⟨go, fun σ' H' => ∃ sc' hc' m', Rs X.K en σ' H' sc' hc' m' ∧ Stp H0 m0 H' m' ∧ forW g c (ds.drop (i + 1)) C sc' hc', fun σ' H' ⟨sc', hc', m', r', s', k'⟩ => ⟨ds.length - (i + 1), by omega, sc', hc', m', r', s', rfl, lt, k'⟩, fun x H2 y => ?_⟩
      obtain ⟨sm, q⟩ := yy x H2 y
      have s2 := s1.trans (.same sm)
      refine ⟨en, sc1, hc1, m1, C.xp, _, _, r1.same sm, q, k1, f.xp, fun sc2 hc2 k2 σ2 H3 m3 r3 s3 => ?_⟩
      have s23 := s2.trans s3
      exact ⟨en, sc2, hc2, m3, _, r3, k2, ⟨fun sc' hc' p' σ' H' m' r' s' => ⟨sc', hc', m', r', s23.trans s', p'⟩, f.nx.step (s0.trans s23), fun sc' hc' p' σ' H' m' r' s' => ⟨sc', hc', m', r', s23.trans s', p'⟩, f.rt, f.xp⟩⟩
    · have e : i = ds.length := by omega
      rw [List.drop_eq_nil_of_le (by omega)] at k1
      exact .inl ⟨ys (by omega), f.nx sc1 hc1 k1 σ1 H1 m1 r1 (s0.trans s1)⟩⟩
/-- over a list (a tuple): a value -/
def cItL (ce : CEx) : CIx := fun E sc hc P => ce E sc hc fun d hc1 => match d with | .lst xs => P xs hc1 | _ => False
def cItT (ce : CEx) : CIx := fun E sc hc P => ce E sc hc fun d hc1 => match d with | .tup xs => P xs hc1 | _ => False
theorem ci_l (h : CE X W e ce) : CI X W tg e (cItL ce) := ⟨pi_wk (pi_list h.p) fun σ H R ⟨en, sc, hc, m, E, P, r, k, xo, fin⟩ =>
  ⟨en, sc, hc, m, E, _, r, k, xo, fun d hc1 p v H1 m1 x1 q => by
    have r1 := r.call x1
    cases d <;> try exact p.elim
    rename_i xs
    unfold Rep at q
    obtain ⟨a, vs, rfl, na, q1, q2⟩ := q
    refine ⟨a, rfl, ⟨vs, .of q1⟩, fin xs hc1 p _ H1 m1 x1 fun H2 m2 mo s2 i => ⟨fun d e => ?_, fun hl => ⟨vs, .of (s2.keep _ _ q1 trivial na), by rw [← q2.length]; exact hl⟩⟩⟩
    obtain ⟨w, e1, q3⟩ := q2.get e
    have hq := SqL.of (K := X.K) (s2.keep _ _ q1 trivial na)
    refine ⟨⟨vs, w, hq, e1⟩, fun x H3 y => ?_⟩
    obtain ⟨e3, y⟩ := y
    have e4 := y vs hq
    rw [e1] at e4; cases e4
    subst e3
    exact ⟨.refl _, Rep.mono r1.mu s2 _ _ q3⟩⟩⟩
theorem ci_t (h : CE X W e ce) : CI X W tg e (cItT ce) := ⟨pi_wk (pi_tup h.p) fun σ H R ⟨en, sc, hc, m, E, P, r, k, xo, fin⟩ =>
  ⟨en, sc, hc, m, E, _, r, k, xo, fun d hc1 p v H1 m1 x1 q => by
    have r1 := r.call x1
    cases d <;> try exact p.elim
    rename_i xs
    unfold Rep at q
    obtain ⟨a, vs, rfl, q1, q2⟩ := q
    refine ⟨a, rfl, ⟨vs, q1⟩, fin xs hc1 p _ H1 m1 x1 fun H2 m2 mo s2 i => ⟨fun d e => ?_, fun hl => ⟨vs, sqt_step r1.mu s2 q1, by rw [← q2.length]; exact hl⟩⟩⟩
    obtain ⟨w, e1, q3⟩ := q2.get e
    have hq := sqt_step r1.mu s2 q1
    refine ⟨⟨vs, w, hq, e1⟩, fun x H3 y => ?_⟩
    obtain ⟨e3, y⟩ := y
    have e4 := y vs hq
    rw [e1] at e4; cases e4
    subst e3
    exact ⟨.refl _, Rep.mono r1.mu s2 _ _ q3⟩⟩⟩
def rngD (lo hi : Int) : List D := (List.range (hi - lo).toNat).map fun k : Nat => D.int (lo + (k : Int))
theorem rng_yields {K : PySem.W.Frag} {H : Hp} {m : Ms} (lo hi : Int) : Yields K (Itr lo (hi - lo).toNat) (rngD lo hi) H m := fun H2 m2 mo s2 i => by
  refine ⟨fun d e => ?_, fun hl => ?_⟩
  · unfold rngD at e
    rw [List.getElem?_map] at e
    by_cases lt : i < (hi - lo).toNat
    · rw [List.getElem?_range lt] at e
      cases e
      refine ⟨lt, fun x H3 y => ?_⟩
      obtain ⟨e1, e2⟩ := y
      subst e1; subst e2
      exact ⟨.refl _, rep_int⟩
    · rw [List.getElem?_eq_none (by rw [List.length_range]; omega)] at e
      cases e
  · unfold rngD at hl
    rw [List.length_map, List.length_range] at hl
    exact hl
def cR1 (ca : CAx) : CIx := fun E sc hc P => ca E sc hc fun ds hc1 => match ds with | [.int hi] => P (rngD 0 hi) hc1 | _ => False
def cR2 (ca : CAx) : CIx := fun E sc hc P => ca E sc hc fun ds hc1 => match ds with | [.int lo, .int hi] => P (rngD lo hi) hc1 | _ => False
theorem ci_r1 {p2 : Pos} (hm : X.mg "range" = none) (h : CA X W [e] ca) (hg : Gl X "range" := by rfl) (hs : starEach [e] X.env = [(false, eval e X.env)] := by rfl) : CI X W tg (.Call (.Name "range" p2) [e] [] pos) (cR1 ca) := ⟨pi_wk (piR1 hg hm h.p hs) fun σ H R ⟨en, sc, hc, m, E, P, r, k, xo, fin⟩ =>
  ⟨en, sc, hc, m, E, _, r, k, xo, fun ds hc1 p vs H1 m1 x1 q => by
    split at p
    · unfold RepL at q
      obtain ⟨v, _, rfl, q1, q⟩ := q
      unfold RepL at q; unfold Rep at q1
      subst q; subst q1
      rename_i hi
      refine ⟨hi, rfl, ?_⟩
      have z : (hi - 0).toNat = hi.toNat := by rw [Int.sub_zero]
      have yl := rng_yields (K := X.K) (H := H1) (m := m1) 0 hi
      rw [z] at yl
      exact fin _ hc1 p _ H1 m1 x1 yl
    · exact p.elim⟩⟩
theorem ci_r2 {e2 : Expr} {p2 : Pos} (hm : X.mg "range" = none) (h : CA X W [e, e2] ca) (hg : Gl X "range" := by rfl) (hs : starEach [e, e2] X.env = [(false, eval e X.env), (false, eval e2 X.env)] := by rfl) (hs2 : starEach [e2] X.env = [(false, eval e2 X.env)] := by rfl) : CI X W tg (.Call (.Name "range" p2) [e, e2] [] pos) (cR2 ca) := ⟨pi_wk (piR2 hg hm h.p hs hs2) fun σ H R ⟨en, sc, hc, m, E, P, r, k, xo, fin⟩ =>
  ⟨en, sc, hc, m, E, _, r, k, xo, fun ds hc1 p vs H1 m1 x1 q => by
    split at p
    · unfold RepL at q
      obtain ⟨v, _, rfl, q1, q⟩ := q
      unfold RepL at q
      obtain ⟨v2, _, rfl, q2, q⟩ := q
      unfold RepL at q; unfold Rep at q1 q2
      subst q; subst q1; subst q2
      exact ⟨_, _, rfl, fin _ hc1 p _ H1 m1 x1 (rng_yields _ _)⟩
    · exact p.elim⟩⟩
end
end Mn

namespace Mn
open PySem PySem.Spec PyProof.Rows L2
/-! ### comprehensions -/
def wipeC (sc : List Sl) : List Nat → List Sl
  | [] => sc
  | v :: vs => (wipeC sc vs).set v .un
theorem wipeC_len (sc : List Sl) : ∀ vs : List Nat, (wipeC sc vs).length = sc.length
  | [] => rfl
  | v :: vs => by unfold wipeC; rw [List.length_set, wipeC_len sc vs]
theorem wipeC_get {sc : List Sl} {i : Nat} {x : Sl} : ∀ {vs : List Nat}, (wipeC sc vs)[i]? = some x → x ≠ .un → sc[i]? = some x ∧ i ∉ vs
  | [], h, _ => ⟨h, by simp⟩
  | v :: vs, h, hx => by
    unfold wipeC at h
    by_cases hi : v = i
    · subst hi
      by_cases l : v < (wipeC sc vs).length
      · rw [List.getElem?_set_self l] at h; cases h; exact absurd rfl hx
      · rw [List.getElem?_eq_none (by rw [List.length_set]; omega)] at h; cases h
    · rw [List.getElem?_set_ne hi] at h
      obtain ⟨a, b⟩ := wipeC_get h hx
      exact ⟨a, fun z => by rcases List.mem_cons.mp z with z | z; exact hi z.symm; exact b z⟩
theorem wipe_get {σ : L2.St} {i : Nat} : ∀ {vs : List Nat}, i ∉ vs → (wipe σ vs)[i]? = σ[i]?
  | [], _ => rfl
  | v :: vs, h => by
    unfold wipe
    rw [List.getElem?_set_ne (fun z => h (by rw [z]; exact List.mem_cons_self)), wipe_get (fun z => h (List.mem_cons_of_mem _ z))]
theorem Rs.wipe {K : PySem.W.Frag} {en : En} {σ : L2.St} {H : Hp} {sc : List Sl} {hc : CH} {m : Ms} (r : Rs K en σ H sc hc m) (vs : List Nat) : Rs K en (L2.wipe σ vs) H (wipeC sc vs) hc m := by
  refine ⟨r.toEx, fun i d e => ?_, fun i ds e => ?_, fun i j ds es p e1 e2 e3 e4 => ?_, by rw [wipeC_len, wipe_length]; exact r.len⟩
  · obtain ⟨a, b⟩ := wipeC_get e (fun z => nomatch z)
    rw [wipe_get b]
    exact r.slot i d a
  · obtain ⟨a, b⟩ := wipeC_get e (fun z => nomatch z)
    rw [wipe_get b]
    exact r.own i ds a
  · obtain ⟨a, b⟩ := wipeC_get e1 (fun z => nomatch z)
    obtain ⟨a2, b2⟩ := wipeC_get e2 (fun z => nomatch z)
    rw [wipe_get b] at e3
    rw [wipe_get b2] at e4
    exact r.sep i j ds es p a a2 e3 e4
/-- a comprehension's target: names of its own -/
def LGk (X : Cx) (W : WX) (vs : List Nat) (g : CGx) : TG := fun v σ H Q => ∃ en sc hc m E d P, Rs X.K en σ H sc hc m ∧ Rep X.K H m d v ∧ g E d sc hc P ∧ XOk X W en E ∧
  ∀ sc' hc', P sc' hc' → ∀ σ', Rs X.K en σ' H sc' hc' m → hc' = hc → L2.wipe σ' vs = L2.wipe σ vs → Q σ' H
structure CGk (X : Cx) (W : WX) (vs : List Nat) (e : Expr) (g : CGx) : Prop where
  p : PG X e (LGk X W vs g)
def LGsk (X : Cx) (W : WX) (vs : List Nat) (g : CGsx) : TGs := fun ws σ H Q => ∃ en sc hc m E ds P, Rs X.K en σ H sc hc m ∧ RepL X.K H m ds ws ∧ g E ds sc hc P ∧ XOk X W en E ∧
  ∀ sc' hc', P sc' hc' → ∀ σ', Rs X.K en σ' H sc' hc' m → hc' = hc → L2.wipe σ' vs = L2.wipe σ vs → Q σ' H
structure CGsk (X : Cx) (W : WX) (vs : List Nat) (es : List Expr) (g : CGsx) : Prop where
  p : PGs X es (LGsk X W vs g)
theorem wipe_in {j : Nat} : ∀ {vs : List Nat} (τ : L2.St), j ∈ vs → (L2.wipe τ vs)[j]? = if j < τ.length then some none else none
  | [], _, h => by simp at h
  | a :: r, τ, h => by
    unfold L2.wipe
    by_cases ha : a = j
    · subst ha
      by_cases l : a < τ.length
      · rw [if_pos l, List.getElem?_set_self (by rw [wipe_length]; exact l)]
      · rw [if_neg l, List.getElem?_eq_none (by rw [List.length_set, wipe_length]; omega)]
    · rw [List.getElem?_set_ne ha]
      rcases List.mem_cons.mp h with z | z
      · exact absurd z.symm ha
      · exact wipe_in τ z
theorem wipe_set {σ : L2.St} {i : Nat} {v : Option V} {vs : List Nat} (h : i ∈ vs) : L2.wipe (σ.set i v) vs = L2.wipe σ vs := by
  refine List.ext_getElem? fun j => ?_
  by_cases hj : j ∈ vs
  · rw [wipe_in _ hj, wipe_in _ hj, List.length_set]
  · rw [wipe_get hj, wipe_get hj, List.getElem?_set_ne (fun z => hj (by rw [← z]; exact h))]
section
variable {X : Cx} {W : WX} {a b e tg iter elt : Expr} {es ifs : List Expr} {ca cb ce : CEx} {ct : CTx} {c : CAx} {pos : Pos} {vs : List Nat}
theorem wipe_idem (σ : L2.St) (vs : List Nat) : L2.wipe (L2.wipe σ vs) vs = L2.wipe σ vs := by
  refine List.ext_getElem? fun j => ?_
  by_cases hj : j ∈ vs
  · rw [wipe_in _ hj, wipe_in _ hj, wipe_length]
  · rw [wipe_get hj]
theorem cgk_n (i : Nat) {x : Str} (hN : X.N.Nodup) (hm : i ∈ vs := by decide) (hi : X.N[i]? = some x := by rfl) (hx : Loc X.env.scope x := by first | exact Or.inl rfl | exact Or.inr rfl) (hf : X.fn x = true ∨ X.env.scope.names.lookup x = some .local := by first | exact .inl rfl | exact .inr rfl) : CGk X W vs (.Name x pos) (gN i) :=
  ⟨pg_wk (pg_name hN hi hx hf) fun v σ H Q ⟨en, sc, hc, m, E, d, P, r, q, k, xo, f⟩ => f _ hc k _ (r.put i q) rfl (wipe_set hm)⟩
theorem cgsk_nil : CGsk X W vs [] gNil' := ⟨pgs_wk pgs_nil fun ws σ H Q ⟨en, sc, hc, m, E, ds, P, r, q, k, xo, f⟩ => by
  cases ds with
  | nil => unfold RepL at q; subst q; exact ⟨rfl, f sc hc k σ r rfl rfl⟩
  | cons d ds => exact k.elim⟩
theorem cgsk_cons {g : CGx} {gs : CGsx} (h1 : CGk X W vs e g) (h2 : CGsk X W vs es gs) (hs : (assignEach (e :: es) X.env).map (·.2) = assign e X.env :: (assignEach es X.env).map (·.2) := by rfl) : CGsk X W vs (e :: es) (gCons' g gs) :=
  ⟨pgs_wk (pgs_cons h1.p h2.p hs) fun ws σ H Q ⟨en, sc, hc, m, E, ds, P, r, q, k, xo, f⟩ => by
    cases ds with
    | nil => exact k.elim
    | cons d ds =>
      unfold RepL at q
      obtain ⟨v, vr, rfl, q1, q2⟩ := q
      exact ⟨v, vr, rfl, en, sc, hc, m, E, d, _, r, q1, k, xo, fun sc1 hc1 k1 σ1 r1 e1 w1 => ⟨en, sc1, hc1, m, E, ds, P, r1, q2, k1, xo, fun sc2 hc2 k2 σ2 r2 e2 w2 => f sc2 hc2 k2 σ2 r2 (e2.trans e1) (w2.trans w1)⟩⟩⟩
theorem cgk_t {gs : CGsx} {n k : Nat} (hc : X.calm = true) (h : CGsk X W vs es gs) (hn : (assignEach es X.env).length = n := by rfl) (hst : (assignEach es X.env).findIdx? (·.1) = none := by rfl) : CGk X W vs (.Tuple es k pos) (gTup' n gs) :=
  ⟨pg_wk (pg_tup hc h.p hn hst) fun v σ H Q ⟨en, sc, hc, m, E, d, P, r, q, k, xo, f⟩ => by
    cases d <;> try exact k.elim
    unfold Rep at q
    obtain ⟨p, ws, rfl, q1, q2⟩ := q
    exact ⟨p, ws, rfl, q1, by rw [← q2.length]; exact k.1, en, sc, hc, m, E, _, P, r, q2, k.2, xo, f⟩⟩
/-- the comprehension's turns -/
def lcW (g : CGx) (t : CTx) (ce : CEx) (own : List Nat) (sc : List Sl) : List D → List D → CH → (List D → CH → Prop) → Prop
  | [], acc, hc, P => P acc hc
  | d :: ds, acc, hc, P => g (fun _ _ _ => False) d (wipeC sc own) hc fun sc1 hc1 => t (fun _ _ _ => False) sc1 hc1 fun b hc2 =>
    if b = true then ce (fun _ _ _ => False) sc1 hc2 fun y hc3 => lcW g t ce own sc ds (acc ++ [y]) hc3 P else lcW g t ce own sc ds acc hc2 P
def cLc (ci : CIx) (g : CGx) (t : CTx) (ce : CEx) (own : List Nat) : CEx := fun E sc hc P => ci E sc hc fun ds hc1 => ds.length ≤ sizeLine ∧ lcW g t ce own sc ds [] hc1 fun out hc2 => P (.lst out) hc2
structure CTs (X : Cx) (W : WX) (es : List Expr) (c : CTx) : Prop where
  p : PTs X es (LT X W c)
def cYes : CTx := fun _ _ hc P => P true hc
theorem cts_nil : CTs X W [] cYes := ⟨⟨fun pins s σ H Q I ⟨en, sc, hc, m, E, P, r, k, xo, fin⟩ => pts_nil.run pins s σ H Q I (fin _ hc k H m (.refl r.toWd))⟩⟩
theorem cts_one (h : CT X W e ct) : CTs X W [e] ct := ⟨pts_one h.p⟩
theorem lc_gen {ci : CIx} {g : CGx} {σ : L2.St} {H : Hp} {Q : VK} {en : En} {sc : List Sl} {hc : CH} {m : Ms} {E : XP} {P : List D → CH → Prop} (r : Rs X.K en σ H sc hc m)
    (k : ci E sc hc fun ds hc1 => ds.length ≤ sizeLine ∧ lcW g ct ce vs sc ds [] hc1 P) (xo : XOk X W en E)
    (fin : ∀ acc hc', P acc hc' → ∀ L H' m' ws, Ex X.K ⟨H, hc, m⟩ H' hc' m' → m' L → hc' L = none → H' L = some (.lst ws) → RepL X.K H' m' acc ws → H L = none → Q (.ref L) H')
    : tLc (LI X W ci) (LGk X W0 vs g) (LT X W0 ct) (LE X W0 ce) vs σ H Q := by
  refine ⟨en, sc, hc, m, E, _, r, k, xo, fun ds hc1 ⟨lz, k1⟩ J H1 m1 x1 yl L nL => ?_⟩
  have hx : XOk X W0 en (fun _ _ _ => False) := fun _ _ _ z => z.elim
  have w1 : Wd X.K H1 hc1 m1 := x1.toWd
  have hL : hc1 L = none := hc_none w1 nL
  have nm : ¬ m1 L := fun z => by obtain ⟨us, e⟩ := w1.mu L z; rw [nL] at e; cases e
  have st0 : Stp H1 m1 (upd H1 L (.lst [])) (fun a => m1 a ∨ a = L) := ⟨fun a o e _ _ => same_upd nL a o e, fun a z => z.elim .inl fun e => .inr (by rw [e]; exact nL), fun a o e => by rw [same_upd nL a o e]; simp⟩
  have ex0 : Ex X.K ⟨H1, hc1, m1⟩ (upd H1 L (.lst [])) hc1 (fun a => m1 a ∨ a = L) := by
    refine ⟨⟨tabs_put w1.tab (.inl nL), fun a z => ?_, fun a es e => .inl (w1.hm a es e), fun a es e => ?_⟩, w1.mu, w1.hm, fun a o e _ _ => same_upd nL a o e, st0.grow, fun a z _ => .inl z, fun a es e => .inl (by show hc1 a ≠ none; rw [e]; simp), fun a o e => by rw [same_upd nL a o e]; simp⟩
    · rcases z with z | rfl
      · obtain ⟨ws, e⟩ := w1.mu a z
        exact ⟨ws, same_upd nL _ _ e⟩
      · exact ⟨[], upd_same⟩
    · obtain ⟨ws, e1, q1⟩ := w1.heap a es e
      exact ⟨ws, same_upd nL _ _ e1, RepL.mono w1.mu st0 _ _ q1⟩
  refine ⟨fun i mm H' => ∃ hc' m' acc ws, Ex X.K ⟨H1, hc1, m1⟩ H' hc' m' ∧ m' L ∧ hc' L = none ∧ H' L = some (.lst ws) ∧ RepL X.K H' m' acc ws ∧ mm = ds.length - i ∧ i ≤ ds.length ∧ acc.length ≤ i ∧ lcW g ct ce vs sc (ds.drop i) acc hc' P,
    ⟨_, hc1, _, [], [], ex0, .inr rfl, hL, upd_same, RepL.nil, rfl, Nat.zero_le _, Nat.le_refl _, k1⟩, ?_⟩
  rintro i mm H' ⟨hc', m', acc, ws, x', mL, hL', HL, ra, rfl, hi, hacc, k'⟩
  have xx : Ex X.K ⟨H, hc, m⟩ H' hc' m' := x1.trans x'
  have r' := r.call xx
  obtain ⟨yg, ys⟩ := yl H' m' x'.mu x'.stp i
  by_cases lt : i < ds.length
  · rw [List.drop_eq_getElem_cons lt] at k'
    obtain ⟨go, yy⟩ := yg _ (List.getElem?_eq_getElem lt)
    refine .inr ⟨go, fun H2 => ∃ hc2 m2 acc ws, Ex X.K ⟨H1, hc1, m1⟩ H2 hc2 m2 ∧ m2 L ∧ hc2 L = none ∧ H2 L = some (.lst ws) ∧ RepL X.K H2 m2 acc ws ∧ acc.length ≤ i + 1 ∧ lcW g ct ce vs sc (ds.drop (i + 1)) acc hc2 P,
      fun H2 ⟨hc2, m2, acc, ws, a1, a2, a3, a4, a5, a6, a7⟩ => ⟨ds.length - (i + 1), by omega, hc2, m2, acc, ws, a1, a2, a3, a4, a5, rfl, lt, a6, a7⟩, fun x H2 y => ?_⟩
    obtain ⟨sm, q⟩ := yy x H2 y
    have xs2 : Ex X.K ⟨H', hc', m'⟩ H2 hc' m' := Ex.same x'.toWd sm
    have r2 := (r'.same sm).wipe vs
    refine ⟨en, wipeC sc vs, hc', m', (fun _ _ _ => False), ds[i], _, r2, q, k', hx, fun sc3 hc3 k3 σ3 r3 e3 w3 => ⟨by rw [w3]; exact wipe_idem _ _, ?_⟩⟩
    subst e3
    refine ⟨en, sc3, hc3, m', _, _, r3, k3, hx, fun b hc4 k4 H4 m4 x4 => ?_⟩
    have e34 : Ex X.K ⟨H1, hc1, m1⟩ H4 hc4 m4 := (x'.trans xs2).trans x4
    have keepL : ∀ {Hb : Hp} {hcb : CH} {mb : Ms}, Ex X.K ⟨H', hc3, m'⟩ Hb hcb mb → mb L ∧ hcb L = none ∧ Hb L = some (.lst ws) ∧ RepL X.K Hb mb acc ws := fun {Hb hcb mb} x => by
      refine ⟨x.hold L mL hL', ?_, x.keep L _ HL trivial hL', RepL.mono x'.mu x.stp _ _ ra⟩
      cases e : hcb L with
      | none => rfl
      | some es =>
        rcases x.hgrow L es e with y | y
        · exact absurd hL' y
        · have y' : H' L = none := y
          rw [HL] at y'; cases y'
    cases b with
    | true =>
      rw [if_pos rfl] at k4
      refine iteT ⟨en, sc3, hc4, m4, _, _, r3.call x4, k4, hx, fun y hc5 k5 v H5 m5 x5 q5 => ?_⟩
      obtain ⟨b1, b2, b3, b4⟩ := keepL ((xs2.trans x4).trans x5)
      have e5 : Ex X.K ⟨H1, hc1, m1⟩ H5 hc5 m5 := e34.trans x5
      have lw : ws.length = acc.length := b4.length.symm
      refine ⟨ws, b3, by omega, hc5, m5, acc ++ [y], ws ++ [v], ?_⟩
      have st : Stp H5 m5 (upd H5 L (.lst (ws ++ [v]))) m5 := ⟨fun a o e _ n => by rw [upd_ne (fun z => n (by rw [z]; exact b1))]; exact e, fun _ h => .inl h, fun p o e => upd_some e⟩
      refine ⟨⟨⟨tabs_put e5.tab (.inr ⟨_, b3⟩), fun a z => ?_, e5.hm, fun a es e => ?_⟩, w1.mu, w1.hm, fun a o e t n => ?_, e5.grow, e5.hold, e5.hgrow, fun a o e => ?_⟩, b1, b2, upd_same, RepL.mono e5.mu st _ _ (b4.append (RepL.one q5)), by rw [List.length_append]; simp; omega, k5⟩
      · by_cases h : a = L
        · subst h; exact ⟨_, upd_same⟩
        · rw [upd_ne h]; exact e5.mu a z
      · have h : a ≠ L := fun z => by rw [z, b2] at e; cases e
        obtain ⟨us, e1, q1⟩ := e5.heap a es e
        exact ⟨us, by rw [upd_ne h]; exact e1, RepL.mono e5.mu st _ _ q1⟩
      · rw [upd_ne (fun z => by rw [z] at e; have e' : H1 L = some o := e; rw [nL] at e'; cases e')]
        exact e5.keep a o e t n
      · by_cases h : a = L
        · subst h; rw [upd_same]; simp
        · rw [upd_ne h]; exact e5.live a o e
    | false =>
      rw [if_neg Bool.false_ne_true] at k4
      obtain ⟨b1, b2, b3, b4⟩ := keepL (xs2.trans x4)
      exact iteF ⟨hc4, m4, acc, ws, e34, b1, b2, b3, b4, by omega, k4⟩
  · have e : i = ds.length := by omega
    rw [List.drop_eq_nil_of_le (by omega)] at k'
    refine .inl ⟨ys (by omega), ?_⟩
    have xa : Ex X.K ⟨H, hc, m⟩ H' hc' m' := xx
    have hH : H L = none := by
      cases e : H L with
      | none => rfl
      | some o => exact absurd nL (x1.live L o e)
    exact fin acc hc' k' L H' m' ws xa mL hL' HL ra hH
theorem lc_lift {ci : CIx} {g : CGx} {σ : L2.St} {H : Hp} {Q : VK} (h : LE X W (cLc ci g ct ce vs) σ H Q) : tLc (LI X W ci) (LGk X W0 vs g) (LT X W0 ct) (LE X W0 ce) vs σ H Q := by
  obtain ⟨en, sc, hc, m, E, P, r, k, xo, fin⟩ := h
  refine lc_gen r k xo fun acc hc' k' L H' m' ws xa mL hL' HL ra hH => ?_
  obtain ⟨x6, st6⟩ := xa.drop (p := L) hH hL'
  refine fin _ hc' k' _ H' _ x6 ?_
  unfold Rep
  exact ⟨L, ws, rfl, fun z => z.2 rfl, HL, RepL.mono xa.mu st6 _ _ ra⟩
/-- the same, a list that will be changed -/
def cLcM (ci : CIx) (g : CGx) (t : CTx) (ce : CEx) (own : List Nat) : CEx := fun E sc hc P => ci E sc hc fun ds hc1 => ds.length ≤ sizeLine ∧ lcW g t ce own sc ds [] hc1 fun out hc2 => ∀ p, hc2 p = none → P (.ref p) (updc hc2 p out)
theorem lc_liftM {ci : CIx} {g : CGx} {σ : L2.St} {H : Hp} {Q : VK} (h : LE X W (cLcM ci g ct ce vs) σ H Q) : tLc (LI X W ci) (LGk X W0 vs g) (LT X W0 ct) (LE X W0 ce) vs σ H Q := by
  obtain ⟨en, sc, hc, m, E, P, r, k, xo, fin⟩ := h
  refine lc_gen r k xo fun acc hc' k' L H' m' ws xa mL hL' HL ra hH => ?_
  refine fin _ _ (k' L hL') _ H' m' ⟨⟨xa.tab, xa.mu, fun a es e => ?_, fun a es e => ?_⟩, xa.emut, xa.ehm, xa.keep, xa.grow, xa.hold, fun a es e => ?_, xa.live⟩ (by unfold Rep; rfl)
  · unfold updc at e
    by_cases ha : a = L
    · rw [ha]; exact mL
    · rw [if_neg ha] at e; exact xa.hm a es e
  · unfold updc at e
    by_cases ha : a = L
    · rw [if_pos ha] at e; cases e
      subst ha
      exact ⟨ws, HL, ra⟩
    · rw [if_neg ha] at e; exact xa.heap a es e
  · unfold updc at e
    by_cases ha : a = L
    · rw [ha]; exact .inr hH
    · rw [if_neg ha] at e; exact xa.hgrow a es e

theorem ce_lc {ci : CIx} {g : CGx} {scope : Scope} {own : List (Str × Nat)} (hc : X.calm = true) (hN : X.N.Nodup) (hi : CI X W tg iter ci) (ok : BlkOk X.N X.env.scope scope own)
    (hg : ∀ (s : Shared) (H : Hp) (C : Addr) (cl : List (Str × Addr)) (fp : List Addr), CGk (X.blk s H scope (compEnvC scope cl C X.env) fp) W0 (own.map (·.2)) tg g)
    (ht : ∀ (s : Shared) (H : Hp) (C : Addr) (cl : List (Str × Addr)) (fp : List Addr), CTs (X.blk s H scope (compEnvC scope cl C X.env) fp) W0 ifs ct)
    (he : ∀ (s : Shared) (H : Hp) (C : Addr) (cl : List (Str × Addr)) (fp : List Addr), CE (X.blk s H scope (compEnvC scope cl C X.env) fp) W0 elt ce) (hs : ∀ x, foldedSetIterable iter X.env x = pure x := by intro _; rfl) :
    CE X W (.ListComp elt [⟨tg, iter, ifs, 0⟩] scope pos) (cLc ci g ct ce (own.map (·.2))) :=
  ⟨pe_wk (pe_lc (g := LGk X W0 (List.map (fun p : Str × Nat => p.2) own) g) (tt := LT X W0 ct) (te := LE X W0 ce) hc hN hi.p ok (fun s H C cl fp => (hg s H C cl fp).p) (fun s H C cl fp => (ht s H C cl fp).p) (fun s H C cl fp => (he s H C cl fp).p) hs) fun σ H Q h => lc_lift h⟩
theorem ce_lcM {ci : CIx} {g : CGx} {scope : Scope} {own : List (Str × Nat)} (hc : X.calm = true) (hN : X.N.Nodup) (hi : CI X W tg iter ci) (ok : BlkOk X.N X.env.scope scope own)
    (hg : ∀ (s : Shared) (H : Hp) (C : Addr) (cl : List (Str × Addr)) (fp : List Addr), CGk (X.blk s H scope (compEnvC scope cl C X.env) fp) W0 (own.map (·.2)) tg g)
    (ht : ∀ (s : Shared) (H : Hp) (C : Addr) (cl : List (Str × Addr)) (fp : List Addr), CTs (X.blk s H scope (compEnvC scope cl C X.env) fp) W0 ifs ct)
    (he : ∀ (s : Shared) (H : Hp) (C : Addr) (cl : List (Str × Addr)) (fp : List Addr), CE (X.blk s H scope (compEnvC scope cl C X.env) fp) W0 elt ce) (hs : ∀ x, foldedSetIterable iter X.env x = pure x := by intro _; rfl) :
    CE X W (.ListComp elt [⟨tg, iter, ifs, 0⟩] scope pos) (cLcM ci g ct ce (own.map (·.2))) :=
  ⟨pe_wk (pe_lc (g := LGk X W0 (List.map (fun p : Str × Nat => p.2) own) g) (tt := LT X W0 ct) (te := LE X W0 ce) hc hN hi.p ok (fun s H C cl fp => (hg s H C cl fp).p) (fun s H C cl fp => (ht s H C cl fp).p) (fun s H C cl fp => (he s H C cl fp).p) hs) fun σ H Q h => lc_liftM h⟩
/-- x = [.. for ..] on one line, x a plain local -/
theorem cs_lc {i : Nat} {y : Str} {py : Pos} {sp2 : Pos} {ci : CIx} {g : CGx} {scope : Scope} {own : List (Str × Nat)} (hc : X.calm = true) (hN : X.N.Nodup) (hi : CI X W tg iter ci) (ok : BlkOk X.N X.env.scope scope own)
    (hg : ∀ (s : Shared) (H : Hp) (C : Addr) (cl : List (Str × Addr)) (fp : List Addr), CGk (X.blk s H scope (compEnvC scope cl C X.env) fp) W0 (own.map (·.2)) tg g)
    (ht : ∀ (s : Shared) (H : Hp) (C : Addr) (cl : List (Str × Addr)) (fp : List Addr), CTs (X.blk s H scope (compEnvC scope cl C X.env) fp) W0 ifs ct)
    (he : ∀ (s : Shared) (H : Hp) (C : Addr) (cl : List (Str × Addr)) (fp : List Addr), CE (X.blk s H scope (compEnvC scope cl C X.env) fp) W0 elt ce) (hy : X.N[i]? = some y := by rfl) (hyl : X.env.scope.names.lookup y = some .local := by rfl)
    (hsw : swapsWith (.ListComp elt [⟨tg, iter, ifs, 0⟩] scope pos) (some (.Name y py)) sp2.line X.env = pure true := by exact sw_true rfl rfl rfl (by decide +kernel)) (hs : ∀ x, foldedSetIterable iter X.env x = pure x := by intro _; rfl) :
    CS X W (.Assign [.Name y py] (.ListComp elt [⟨tg, iter, ifs, 0⟩] scope pos) sp2) (cAsg (cLc ci g ct ce (own.map (·.2))) (gN i)) :=
  ⟨ps_wk (ps_setLc (i := i) (g := LGk X W0 (List.map (fun p : Str × Nat => p.2) own) g) (tt := LT X W0 ct) (te := LE X W0 ce) hc hN hy hyl hsw hi.p ok (fun s H C cl fp => (hg s H C cl fp).p) (fun s H C cl fp => (ht s H C cl fp).p) (fun s H C cl fp => (he s H C cl fp).p) hs) fun D σ H h => by
    obtain ⟨en, sc, hc', m, C, r, k, f⟩ := h
    exact lc_lift ⟨en, sc, hc', m, C.xp, _, r, k, f.xp, fun d hc1 p v H1 m1 x1 q => f.nx _ hc1 p _ H1 m1 ((r.call x1).put i q) x1.stp⟩⟩
end
end Mn

namespace Mn
open PySem PySem.Spec PyProof.Rows L2
/-! ### built-ins -/
theorem wl1 {K : PySem.W.Frag} {H : Hp} {m : Ms} {d : D} {xs : List V} (h : RepWL K H m [d] xs) : ∃ x, xs = [x] ∧ RepW K H m d x := by
  cases h with
  | cons a t => cases t; exact ⟨_, rfl, a⟩
theorem wl2 {K : PySem.W.Frag} {H : Hp} {m : Ms} {d e : D} {xs : List V} (h : RepWL K H m [d, e] xs) : ∃ x y, xs = [x, y] ∧ RepW K H m d x ∧ RepW K H m e y := by
  cases h with
  | cons a t =>
    obtain ⟨y, rfl, b⟩ := wl1 t
    exact ⟨_, _, rfl, a, b⟩
section
variable {X : Cx}
def absD : On := fun ds _ P => match ds with | [.int i] => P (.int (if i < 0 then -i else i)) | _ => False
theorem bf_abs : CallR X (.builtin "abs") (LVn X.K absD) := by
  intro pins s σ H xs us Q I r h
  obtain ⟨hc, m, ds, P, w, h1, f, fin⟩ := h
  unfold absD at f
  split at f
  · obtain ⟨x, rfl, k1⟩ := wl1 h1
    unfold RepW Rep at k1
    subst k1
    exact call_abs pins s σ H _ us Q I r ⟨_, rfl, fin _ f _ _ (.refl H) rep_int⟩
  · exact f.elim
def intFD : On := fun ds _ P => match ds with | [.int i] => P (.int i) | [.bl b] => P (.int (if b then 1 else 0)) | _ => False
theorem bt_int : CallR X (.type "int") (LVn X.K intFD) := by
  intro pins s σ H xs us Q I r h
  obtain ⟨hc, m, ds, P, w, h1, f, fin⟩ := h
  unfold intFD at f
  split at f
  · obtain ⟨x, rfl, k1⟩ := wl1 h1
    unfold RepW Rep at k1
    subst k1
    exact call_int1 pins s σ H _ us Q I r (.inl ⟨_, rfl, fin _ f _ _ (.refl H) rep_int⟩)
  · obtain ⟨x, rfl, k1⟩ := wl1 h1
    unfold RepW Rep at k1
    subst k1
    exact call_int1 pins s σ H _ us Q I r (.inr ⟨_, rfl, fin _ f _ _ (.refl H) rep_int⟩)
  · exact f.elim
def maxD2 : On := fun ds _ P => match ds with | [.int i, .int j] => P (.int (if j > i then j else i)) | _ => False
def minD2 : On := fun ds _ P => match ds with | [.int i, .int j] => P (.int (if j < i then j else i)) | _ => False
theorem bf_max2 (hc : X.calm = true) : CallR X (.builtin "max") (LVn X.K maxD2) := by
  intro pins s σ H xs us Q I r h
  obtain ⟨hc', m, ds, P, w, h1, f, fin⟩ := h
  unfold maxD2 at f
  split at f
  · obtain ⟨x, y, rfl, k1, k2⟩ := wl2 h1
    unfold RepW Rep at k1 k2
    subst k1; subst k2
    exact call_max2 hc pins s σ H _ us Q I r ⟨_, _, rfl, fin _ f _ _ (.refl H) rep_int⟩
  · exact f.elim
theorem bf_min2 (hc : X.calm = true) : CallR X (.builtin "min") (LVn X.K minD2) := by
  intro pins s σ H xs us Q I r h
  obtain ⟨hc', m, ds, P, w, h1, f, fin⟩ := h
  unfold minD2 at f
  split at f
  · obtain ⟨x, y, rfl, k1, k2⟩ := wl2 h1
    unfold RepW Rep at k1 k2
    subst k1; subst k2
    exact call_min2 hc pins s σ H _ us Q I r ⟨_, _, rfl, fin _ f _ _ (.refl H) rep_int⟩
  · exact f.elim
/-- the length of what has one -/
def lenOf (hc : CH) : D → Option Nat
  | .lst xs => some xs.length
  | .tup xs => some xs.length
  | .ref a => (hc a).map List.length
  | .frz xs => some xs.length
  | _ => none
def lenD : On := fun ds hc P => match ds with
  | [.str z] => z.length ≤ sizeLine ∧ P (.int z.length)
  | [.lst xs] => P (.int xs.length)
  | [.tup xs] => P (.int xs.length)
  | [.frz xs] => P (.int xs.length)
  | [.ref a] => oth (hc a) fun xs => P (.int xs.length)
  | _ => False
theorem bf_len : CallR X (.builtin "len") (LVn X.K lenD) := by
  intro pins s σ H xs us Q I r h
  obtain ⟨hc, m, ds, P, w, h1, f, fin⟩ := h
  unfold lenD at f
  split at f
  · obtain ⟨x, rfl, k1⟩ := wl1 h1
    unfold RepW Rep at k1
    subst k1
    exact call_len pins s σ H _ us Q I r ⟨_, _, rfl, ⟨f.1, rfl⟩, fin _ f.2 _ _ (.refl H) rep_int⟩
  · obtain ⟨x, rfl, k1⟩ := wl1 h1
    unfold RepW at k1
    obtain ⟨p, vs, rfl, q, rl⟩ := k1
    exact call_len pins s σ H _ us Q I r ⟨_, _, rfl, .inl ⟨vs, .of q, rl.length⟩, fin _ f _ _ (.refl H) rep_int⟩
  · obtain ⟨x, rfl, k1⟩ := wl1 h1
    unfold RepW Rep at k1
    obtain ⟨p, vs, rfl, q, rl⟩ := k1
    exact call_len pins s σ H _ us Q I r ⟨_, _, rfl, .inr ⟨vs, q, rl.length⟩, fin _ f _ _ (.refl H) rep_int⟩
  · obtain ⟨x, rfl, k1⟩ := wl1 h1
    unfold RepW Rep at k1
    obtain ⟨p, vs, rfl, q, rl⟩ := k1
    exact call_len pins s σ H _ us Q I r ⟨_, _, rfl, .inl ⟨vs, q.sq, rl.length⟩, fin _ f _ _ (.refl H) rep_int⟩
  · obtain ⟨x, rfl, k1⟩ := wl1 h1
    unfold RepW Rep at k1
    subst k1
    obtain ⟨ds, e, f⟩ := oth_of f
    obtain ⟨vs, q, rl⟩ := w.heap _ _ e
    exact call_len pins s σ H _ us Q I r ⟨_, _, rfl, .inl ⟨vs, .of q, rl.length⟩, fin _ f _ _ (.refl H) rep_int⟩
  · exact f.elim
def pyTy : D → String
  | .non => "NoneType"
  | .bl _ => "bool"
  | .int _ => "int"
  | .str _ => "str"
  | .tup _ => "tuple"
  | .lst _ => "list"
  | .ref _ => "list"
  | .frz _ => "list"
  | .clo _ _ _ => "function"
  | .exn _ _ _ _ => "function"
  | .fn _ => "function"
  | .dct _ _ => "dict"
/-- whether a class is, or is below, another one -/
def tyB (a n : String) : Bool := a == n || (a == "bool" && n == "int")
def isTy (n : String) (d : D) : Bool := tyB (pyTy d) n
def isiD (n : String) : O1 := fun d hc P => (match d with | .ref a => hc a ≠ none | .clo _ _ _ => False | .exn _ _ _ _ => False | .fn _ => False | _ => True) ∧ P (.bl (isTy n d))
theorem tyx_of {K : PySem.W.Frag} {H : Hp} {hc : CH} {m : Ms} (w : Wd K H hc m) : ∀ {d : D} {v : V}, RepW K H m d v → (match d with | .ref a => hc a ≠ none | .clo _ _ _ => False | .exn _ _ _ _ => False | .fn _ => False | _ => True) → TyX K H v (.type (pyTy d))
  | .non, v, h, _ => by unfold RepW Rep at h; subst h; exact .base .non
  | .bl _, v, h, _ => by unfold RepW Rep at h; subst h; exact .base (.bl _)
  | .int _, v, h, _ => by unfold RepW Rep at h; subst h; exact .base (.int _)
  | .str _, v, h, _ => by unfold RepW Rep at h; subst h; exact .base (.str _)
  | .tup _, v, h, _ => by
    unfold RepW Rep at h
    obtain ⟨p, vs, rfl, q, _⟩ := h
    rcases q with (q | ⟨o, q⟩) | ⟨o, its, n, q, c, _⟩
    · exact .base (.tup q)
    · exact .fTuple q
    · exact .kTuple q c
  | .lst _, v, h, _ => by unfold RepW at h; obtain ⟨p, vs, rfl, q, _⟩ := h; exact .base (.lst q)
  | .ref a, v, h, ha => by
    unfold RepW Rep at h
    subst h
    cases e : hc a with
    | none => exact absurd e ha
    | some ds =>
      obtain ⟨vs, q, _⟩ := w.heap a ds e
      exact .base (.lst q)
  | .frz _, v, h, _ => by
    unfold RepW Rep at h
    obtain ⟨p, vs, rfl, q, _⟩ := h
    rcases q with ⟨o, q⟩ | ⟨o, its, n, q, c, _⟩
    · exact .base (.frz q)
    · exact .kList q c
  | .dct _ _, v, h, _ => by unfold RepW Rep at h; obtain ⟨p, vs, rfl, _, q, _⟩ := h; exact .base (.dK q)
  | .clo _ _ _, v, h, ha => False.elim ha
  | .exn _ _ _ _, v, h, ha => False.elim ha
  | .fn _, v, h, ha => False.elim ha
abbrev tyNs : List String := ["int", "bool", "str", "tuple", "list", "dict"]
theorem kit_tab : ∀ a ∈ "NoneType" :: tyNs, ∀ n ∈ tyNs, kitB a n = some (tyB a n) := by decide +kernel
theorem fn_ty {hc : CH} {d : D} (h : match d with | .ref a => hc a ≠ none | .clo _ _ _ => False | .exn _ _ _ _ => False | .fn _ => False | _ => True) : pyTy d ≠ "function" := by
  cases d <;> first | exact h.elim | (unfold pyTy; simp)
theorem kit_all {K : PySem.W.Frag} {n : String} (hn : n ∈ tyNs) (d : D) (hd : pyTy d ≠ "function") : PySem.W.kitOne K (.type (pyTy d)) (.type n) = some (isTy n d) :=
  kit_ty (kit_tab _ (by cases d <;> first | exact absurd rfl hd | simp [pyTy]) n hn)
end
section
variable {X : Cx} {W : WX} {e : Expr} {es : List Expr} {ca : CEx} {pos : Pos}
/-- isinstance(e, T), T a built-in class -/
theorem ce_isi {n : String} {x : Str} {p1 p2 : Pos} (hT : n ∈ tyNs) (hm : X.mg "isinstance" = none) (hm2 : X.mg x = none) (ha : CB X W e ca) (hv2 : bootBuiltins x = some (.type n) := by decide +kernel) (hg : Gl X "isinstance" := by rfl) (hg2 : Gl X x := by rfl) (hn2 : x ≠ "__name__" := by decide) (hd2 : (x == ("__debug__" : Str)) = false := by decide)
    (he : starEach [e, .Name x p2] X.env = (false, eval e X.env) :: starEach [.Name x p2] X.env := by rfl) (he2 : starEach [.Name x p2] X.env = (false, eval (.Name x p2) X.env) :: starEach [] X.env := by rfl) (hpl : (backTo pos (starEach [.Name x p2] X.env)).any (·.1) = false := by rfl) : CE X W (.Call (.Name "isinstance" p1) [e, .Name x p2] [] pos) (cUn (isiD n) ca) :=
  ⟨pe_wk (pe_callB call_isi hg hm (by decide +kernel) (pa_cons ha.p (pa_cons (pe_bltn (v := .ty n) hg2 hm2 hv2 rfl hn2 hd2) pa_nil he2) he) (by decide) (by decide) he hpl) fun σ H Q h => by
    obtain ⟨en, sc, hc, m, E, P, r, k, xo, fin⟩ := h
    refine ⟨en, sc, hc, m, E, _, r, k, xo, fun d hc1 p v H1 m1 x1 q => ?_⟩
    have w1 : Wd X.K H1 hc1 m1 := x1.toWd
    exact ⟨v, .ty n, _, _, _, rfl, .ty n, tyx_of w1 (q.w (r.call x1)) p.1, kit_all hT d (fn_ty p.1), fin _ hc1 p.2 _ H1 m1 x1 rep_bl⟩⟩
end

/-! ### defs -/
def startC (N : List Str) (ds : List D) : List Sl := ds.map Sl.val ++ List.replicate (N.length - ds.length) Sl.un
theorem start_rs {K : PySem.W.Frag} {H : Hp} {hc : CH} {m : Ms} {N : List Str} {ds : List D} {vs : List V} (w : Wd K H hc m) (q : RepL K H m ds vs) : Rs K ⟨H, hc, m⟩ (L2.start N vs) H (startC N ds) hc m := by
  have l := q.length
  refine ⟨.refl w, fun i d e => ?_, fun i es e => ?_, fun i j es fs p e1 e2 e3 e4 => ?_, ?_⟩
  · unfold startC at e
    by_cases h : i < ds.length
    · rw [List.getElem?_append_left (by rw [List.length_map]; exact h), List.getElem?_map] at e
      cases e1 : ds[i]? with
      | none => rw [e1] at e; cases e
      | some d' =>
        rw [e1] at e; cases e
        obtain ⟨v, e2, q2⟩ := q.get e1
        refine ⟨v, ?_, q2⟩
        unfold L2.start
        rw [List.getElem?_append_left (by rw [List.length_map, ← l]; exact h), List.getElem?_map, e2]
        rfl
    · rw [List.getElem?_append_right (by rw [List.length_map]; omega), List.getElem?_replicate] at e
      split at e <;> cases e
  · unfold startC at e
    by_cases h : i < ds.length
    · rw [List.getElem?_append_left (by rw [List.length_map]; exact h), List.getElem?_map] at e
      cases e1 : ds[i]? with
      | none => rw [e1] at e; cases e
      | some d' => rw [e1] at e; cases e
    · rw [List.getElem?_append_right (by rw [List.length_map]; omega), List.getElem?_replicate] at e
      split at e <;> cases e
  · unfold startC at e1
    by_cases h : i < ds.length
    · rw [List.getElem?_append_left (by rw [List.length_map]; exact h), List.getElem?_map] at e1
      cases e5 : ds[i]? with
      | none => rw [e5] at e1; cases e1
      | some d' => rw [e5] at e1; cases e1
    · rw [List.getElem?_append_right (by rw [List.length_map]; omega), List.getElem?_replicate] at e1
      split at e1 <;> cases e1
  · unfold L2.start startC
    rw [List.length_append, List.length_append, List.length_map, List.length_map, List.length_replicate, List.length_replicate, l]
section
variable {P : Program} {w : World} {K : PySem.W.Frag} {mg : Str → Option Value} {base : Heap} {x qual : Str} {params : Arguments} {body : List Stmt} {scope : Scope} {dvs : List V} {kws : List (Str × V)} {f : Addr} {fd : FuncData}
abbrev WE (E : XK) : WX := fun cls d _ H => E cls d H
abbrev cxD (P : Program) (w : World) (K : PySem.W.Frag) (mg : Str → Option Value) (base : Heap) (N : List Str) (qual : Str) (scope : Scope) (f : Addr) (cd : Value) (A : Around) (outer : List Env) (s : Shared) (H : Hp) (E : XK) : Cx := cxOf (L2.CX P w) P w K mg base N qual scope f cd A outer s H E
theorem rt_of {k : Nat} {N : List Str} {cd : Value} {A : Around} {outer : List Env} {s : Shared} {H : Hp} {E : XK} (hr : RG k (A.deeper (envOfC qual scope s.heap.objs.size f cd))) : RT k (cxD P w K mg base N qual scope f cd A outer s H E) (WE E) := ⟨hr, takes_of rfl rfl rfl rfl, passes_of rfl⟩
theorem end_of {N : List Str} {cd : Value} {A : Around} {outer : List Env} {s : Shared} {H : Hp} {E : XK} {Q : VK} {hc : CH} {m : Ms} {P' : D → CH → Prop} {PE : Exn → CH → Prop}
    (f1 : ∀ d hc', P' d hc' → ∀ v H' m', Ex K ⟨H, hc, m⟩ H' hc' m' → Rep K H' m' d v → Q v H') (f2 : ∀ x hc', PE x hc' → ∀ cls dx H' m', Ex K ⟨H, hc, m⟩ H' hc' m' → RepXK K mg H' m' x cls dx → E cls dx H') :
    EndOk (cxD P w K mg base N qual scope f cd A outer s H E) (WE E) ⟨H, hc, m⟩ H m { nx := fun _ hc' => P' .non hc', rt := P', xp := fun x _ hc' => PE x hc' } { nx := fun _ H' => Q .non H', rt := Q } :=
  ⟨fun sc' hc' q σ' H' m' r' s' => f1 _ hc' q _ H' m' r'.toEx rep_non, fun _ _ z => z.elim, fun _ _ z => z.elim, fun d hc' q v H' m' x' r' => f1 d hc' q v H' m' x' r', fun x sc hc' px cls d σ' H' m' r' q => f2 x hc' px cls d H' m' r'.toEx q⟩
/-- a def: its clean reading c and its promise sp -/
theorem fn_ok {N ps : List Str} {k : Nat} {sp : Spc} {c : CSx} (F : FunD K x qual params body scope dvs kws f fd) (S : FnScope N ps scope)
    (hb : ∀ (cdv : Value) (A : Around) (outer : List Env) (s : Shared) (H : Hp) (E : XK), RT k (cxD P w K mg base N qual scope f cdv A outer s H E) (WE E) → CSs (cxD P w K mg base N qual scope f cdv A outer s H E) (WE E) body c)
    (hl : ∀ ds hc Q E, sp ds hc Q E → ds.length = ps.length)
    (hp : ∀ ds hc (Q : D → CH → Prop) E, sp ds hc Q E → c { nx := fun _ hc' => Q .non hc', rt := Q, xp := fun x _ hc' => E x hc' } (startC N ds) hc) : FnG P w K mg base (L2.CX P w) (k + 1) f fd ps (toSp K mg sp) := by
  obtain ⟨oc, od, dV, kV, doc, pm, an, cdv, ct, osl, rfl, lk, hcd, _, _⟩ := F.ex
  refine fnG_of lk hcd S (fun vs H Q E ⟨hc, m, ds, P', PE, w', rl, h, _⟩ => by rw [← rl.length]; exact hl ds hc _ _ h) fun A outer s H vs Q E hr ⟨hc, m, ds, P', PE, w', rl, h, f1, f2⟩ => ⟨_, (hb cdv A outer s H E (rt_of hr)).p, ?_⟩
  exact ⟨_, _, hc, m, _, start_rs w' rl, hp ds hc P' PE h, end_of f1 f2⟩
end
end Mn

namespace Mn
open PySem PySem.Spec PyProof.Rows L2
section
variable {X : Cx} {W : WX} {tg e : Expr} {es : List Expr} {ce : CEx} {pos : Pos}
/-! ### a tuple or a list: unpacked, walked -/
theorem pg_or {t u : TG} (h : PG X e t) (g : PG X e u) : PG X e (fun v σ H Q => t v σ H Q ∨ u v σ H Q) := ⟨fun pins s σ H v w Q I r q => q.elim (h.run pins s σ H v w Q I r) (g.run pins s σ H v w Q I r)⟩
def gUn (n : Nat) (gs : CGsx) : CGx := fun E d sc hc P => match d with
  | .tup xs => xs.length = n ∧ gs E xs sc hc P
  | .lst xs => xs.length = n ∧ gs E xs sc hc P
  | .ref a => oth (hc a) fun xs => xs.length = n ∧ gs E xs sc hc P
  | _ => False
theorem cg_u {gs : CGsx} {n k : Nat} (hc : X.calm = true) (h : CGs X W es gs) (hn : (assignEach es X.env).length = n := by rfl) (hst : (assignEach es X.env).findIdx? (·.1) = none := by rfl) : CG X W (.Tuple es k pos) (gUn n gs) :=
  ⟨pg_wk (pg_or (cg_t (n := n) hc h hn hst).p (cg_l (n := n) hc h hn hst).p) fun v σ H Q ⟨en, sc, hc, m, E, d, P, r, q, k, xo, f⟩ => by
    cases d <;> try exact k.elim
    · exact .inl ⟨en, sc, hc, m, E, _, P, r, q, k, xo, f⟩
    · exact .inr ⟨en, sc, hc, m, E, _, P, r, q, k, xo, f⟩
    · exact .inr ⟨en, sc, hc, m, E, _, P, r, q, k, xo, f⟩⟩
theorem pi_seq {te : TE} (h : PE X e te) : PI X tg e (fun σ H R => te σ H fun x H1 => ∃ a, x = .ref a ∧ (((∃ xs, SqL X.K H1 a xs) ∧ R (Itl X.K a) H1) ∨ ((∃ xs, SqT X.K H1 a xs) ∧ R (Itt X.K a) H1))) :=
  ⟨fun pins s σ H R I hw => thn (h.run pins s σ H _ I hw) fun v s1 ⟨x, H1, I1, r1, a, ex, q⟩ => by
    subst ex
    cases r1
    rcases q with ⟨⟨xs, hq⟩, q⟩ | ⟨⟨xs, hq⟩, q⟩
    · obtain ⟨its, _, pl, _⟩ := I1.list hq
      exact wpAny_pyIter_list pl.isList (pi_one I1 (tk := s1.toks) _ (turn_list a _) ⟨_, Heap.get?_push_size _ rfl, rfl, rfl⟩ q)
    · obtain ⟨its, _, pt, _⟩ := I1.tuple hq
      exact wpAny_pyIter_tuple pt (pi_one I1 (tk := s1.toks) _ (turn_tuple a _) ⟨_, Heap.get?_push_size _ rfl, rfl, rfl⟩ q)⟩
def cIt (ce : CEx) : CIx := fun E sc hc P => ce E sc hc fun d hc1 => match d with | .lst xs => P xs hc1 | .tup xs => P xs hc1 | .frz xs => P xs hc1 | _ => False
theorem ci_e (h : CE X W e ce) : CI X W tg e (cIt ce) := ⟨pi_wk (pi_seq h.p) fun σ H R ⟨en, sc, hc, m, E, P, r, k, xo, fin⟩ =>
  ⟨en, sc, hc, m, E, _, r, k, xo, fun d hc1 p v H1 m1 x1 q => by
    have r1 := r.call x1
    have mu1 := r1.mu
    cases d <;> try exact p.elim
    · rename_i xs
      unfold Rep at q
      obtain ⟨a, vs, rfl, q1, q2⟩ := q
      refine ⟨a, rfl, .inr ⟨⟨vs, q1⟩, fin xs hc1 p _ H1 m1 x1 fun H2 m2 mo s2 i => ⟨fun d e => ?_, fun hl => ⟨vs, sqt_step mu1 s2 q1, by rw [← q2.length]; exact hl⟩⟩⟩⟩
      obtain ⟨w, e1, q3⟩ := q2.get e
      have hq := sqt_step mu1 s2 q1
      refine ⟨⟨vs, w, hq, e1⟩, fun x H3 ⟨e3, y⟩ => ?_⟩
      have e4 := y vs hq
      rw [e1] at e4; cases e4
      subst e3
      exact ⟨.refl _, Rep.mono mu1 s2 _ _ q3⟩
    · rename_i xs
      unfold Rep at q
      obtain ⟨a, vs, rfl, na, q1, q2⟩ := q
      refine ⟨a, rfl, .inl ⟨⟨vs, .of q1⟩, fin xs hc1 p _ H1 m1 x1 fun H2 m2 mo s2 i => ⟨fun d e => ?_, fun hl => ⟨vs, .of (s2.keep _ _ q1 trivial na), by rw [← q2.length]; exact hl⟩⟩⟩⟩
      obtain ⟨w, e1, q3⟩ := q2.get e
      have hq := SqL.of (K := X.K) (s2.keep _ _ q1 trivial na)
      refine ⟨⟨vs, w, hq, e1⟩, fun x H3 ⟨e3, y⟩ => ?_⟩
      have e4 := y vs hq
      rw [e1] at e4; cases e4
      subst e3
      exact ⟨.refl _, Rep.mono mu1 s2 _ _ q3⟩
    · rename_i xs
      unfold Rep at q
      obtain ⟨a, vs, rfl, q1, q2⟩ := q
      have hs : ∀ {H2 : Hp} {m2 : Ms}, Stp H1 m1 H2 m2 → SqL X.K H2 a vs := fun {H2 m2} s2 => by
        rcases q1 with ⟨o, q1⟩ | q1
        · exact .inl (.inr ⟨o, s2.keep _ _ q1 trivial fun z => by obtain ⟨w, e⟩ := mu1 _ z; rw [q1] at e; cases e⟩)
        · exact .inr q1
      refine ⟨a, rfl, .inl ⟨⟨vs, q1.sq⟩, fin xs hc1 p _ H1 m1 x1 fun H2 m2 mo s2 i => ⟨fun d e => ?_, fun hl => ⟨vs, hs s2, by rw [← q2.length]; exact hl⟩⟩⟩⟩
      obtain ⟨w, e1, q3⟩ := q2.get e
      have hq := hs s2
      refine ⟨⟨vs, w, hq, e1⟩, fun x H3 ⟨e3, y⟩ => ?_⟩
      have e4 := y vs hq
      rw [e1] at e4; cases e4
      subst e3
      exact ⟨.refl _, Rep.mono mu1 s2 _ _ q3⟩⟩⟩

/-! ### a def by its name -/
def FnAt (P : Program) (w : World) (K : PySem.W.Frag) (mg : Str → Option Value) (base : Heap) (k : Nat) (x : Str) (ps : List Str) (sp : Spc) : Prop :=
  ∃ (f : Addr) (fd : FuncData), FnG P w K mg base (L2.CX P w) k f fd ps (toSp K mg sp) ∧ mg x = some (.ref f) ∧ PySem.W.keepIn K (.ref f) = true ∧ Binds K fd ps [] ∧ ∃ (oc : Value) (od : Option Addr) (osl : Array (Option Value)), K.lookup f = some ⟨oc, od, .func fd, osl⟩
theorem FnAt.mono {P : Program} {w : World} {K : PySem.W.Frag} {mg : Str → Option Value} {base : Heap} {j k : Nat} {x : Str} {ps : List Str} {sp : Spc} (h : FnAt P w K mg base j x ps sp) (l : j ≤ k) : FnAt P w K mg base k x ps sp := by
  obtain ⟨f, fd, a, b, c, d⟩ := h
  exact ⟨f, fd, a.mono l, b, c, d⟩
theorem ce_f {x : Str} {p : Pos} {k l : Nat} {ps : List Str} {sp : Spc} {c : CAx} (F : FnAt X.prog X.w X.K X.mg X.base k x ps sp) (hr : RT l X W) (ha : CA X W (e :: es) c) (hl : k ≤ l := by decide)
    (hg : Gl X x := by rfl) (hdb : (x == ("__debug__" : Str)) = false := by decide) (he : starEach (e :: es) X.env = (false, eval e X.env) :: starEach es X.env := by rfl) (hpl : (backTo pos (starEach es X.env)).any (·.1) = false := by rfl) : CE X W (.Call (.Name x p) (e :: es) [] pos) (cCall sp c) := by
  obtain ⟨f, fd, F, hm, hk, hb, _⟩ := F
  exact ce_call F (hr.mono hl) hm hk hb ha hg hdb he hpl
end
/-- where a def of the text stands -/
def DefAt (K : PySem.W.Frag) (mg : Str → Option Value) (x : Str) (st : Stmt) : Prop := ∃ (f : Addr) (fd : FuncData), FunD K x x (defArgs st) (defBody st) (defScope st) [] [] f fd ∧ mg x = some (.ref f)
theorem fn_at {P : Program} {w : World} {K : PySem.W.Frag} {mg : Str → Option Value} {base : Heap} {x : Str} {st : Stmt} {N ps : List Str} {k : Nat} {sp : Spc} {c : CSx} (F : DefAt K mg x st) (S : FnScope N ps (defScope st))
    (hb : ∀ (f : Addr) (cdv : Value) (A : Around) (outer : List Env) (s : Shared) (H : Hp) (E : XK), RT k (cxD P w K mg base N x (defScope st) f cdv A outer s H E) (WE E) → CSs (cxD P w K mg base N x (defScope st) f cdv A outer s H E) (WE E) (defBody st) c)
    (hl : ∀ ds hc Q E, sp ds hc Q E → ds.length = ps.length) (hp : ∀ ds hc (Q : D → CH → Prop) E, sp ds hc Q E → c { nx := fun _ hc' => Q .non hc', rt := Q, xp := fun x _ hc' => E x hc' } (startC N ds) hc)
    (hbi : ∀ (kV doc pm : Value) (an : Option Addr) (cdv ct : Value) (us : List Value), us.length = ps.length → bindArgs (PySem.W.fnOf x x (defArgs st) (defBody st) (defScope st) .none kV doc pm an cdv ct) ⟨us, []⟩ = pure (ps.zip us)) : FnAt P w K mg base (k + 1) x ps sp := by
  obtain ⟨f, fd, F, hm⟩ := F
  refine ⟨f, fd, fn_ok F S (hb f) hl hp, hm, F.kp, F.bindsN hbi, ?_⟩
  obtain ⟨oc, od, dV, kV, doc, pm, an, cdv, ct, osl, e, lk, _⟩ := F.ex
  exact ⟨oc, od, osl, lk⟩

/-! ### the law -/
def spLaw : Spc := fun ds _ Q _ => ∃ ns : List Int, ds = [.frz (ns.map D.int)] ∧ ns.length ≤ 63 ∧ ∀ hc', Q (.bl true) hc'
theorem repl_ints {K : PySem.W.Frag} {H : Hp} {m : Ms} : ∀ ns : List Int, RepL K H m (ns.map D.int) (ns.map V.int)
  | [] => RepL.nil
  | n :: ns => RepL.cons rep_int (repl_ints ns)
end Mn

namespace Mn
open PySem PySem.Spec PyProof.Rows L2
/-! ### constants of the module -/
def GlobC (K : PySem.W.Frag) (mg : Str → Option Value) (x : Str) (d : D) : Prop := ∃ u v, mg x = some u ∧ RelV v u ∧ ∀ H m, Rep K H m d v
theorem GlobC.int {K : PySem.W.Frag} {mg : Str → Option Value} {x : Str} {i : Int} (h : ∃ t, mg x = some (.int i t)) : GlobC K mg x (.int i) := by
  obtain ⟨t, h⟩ := h
  exact ⟨_, .int i, h, ⟨t, rfl⟩, fun _ _ => rep_int⟩
theorem GlobC.str {K : PySem.W.Frag} {mg : Str → Option Value} {x : Str} {i : Str} (h : ∃ t, mg x = some (.str i t)) : GlobC K mg x (.str i) := by
  obtain ⟨t, h⟩ := h
  exact ⟨_, .str i, h, ⟨t, rfl⟩, fun _ _ => rep_str⟩
theorem ce_gc {X : Cx} {W : WX} {x : Str} {d : D} {pos : Pos} (h : GlobC X.K X.mg x d) (hg : Gl X x := by rfl) (hd : (x == ("__debug__" : Str)) = false := by decide) : CE X W (.Name x pos) (cC d) := by
  obtain ⟨u, v, hm, r, hr⟩ := h
  exact ce_g hg hm r hr hd
/-! ### helps for readings -/
/-- one statement by itself: what follows is a letter -/
theorem seq_step {c1 c2 : CSx} {C : CEnds} {sc : List Sl} {hc : CH} (h : ∀ N : List Sl → CH → Prop, (∀ sc' hc', c2 C sc' hc' → N sc' hc') → c1 { nx := N, rt := C.rt, bk := C.bk, ct := C.ct, xp := C.xp } sc hc) : cSeq c1 c2 C sc hc :=
  h (fun sc' hc' => c2 C sc' hc') fun _ _ z => z
section
variable {ca cb cc : CEx} {t u : CTx} {c : CAx} {cl ch : COx} {f : O2} {f1 : O1} {fn : On} {g : CGx} {gs : CGsx} {s1 s2 : CSx} {ci : CIx} {E : XP} {sc : List Sl} {hc : CH} {C : CEnds} {i j l : Nat} {d : D} {ds : List D} {P : D → CH → Prop} {PT : Bool → CH → Prop} {PA : List D → CH → Prop} {PS : List Sl → CH → Prop} {PO : Option Int → CH → Prop} {sp : Spc}
theorem e_V : cV i E sc hc P = (match look sc i with | some d => P d hc | none => False) := rfl
theorem e_C : cC d E sc hc P = P d hc := rfl
theorem e_O : cO i E sc hc P = (match lookO sc i with | some ds => P (.lst ds) hc | none => False) := rfl
theorem e_Op : cOp f ca cb E sc hc P = ca E sc hc fun x hc1 => cb E sc hc1 fun y hc2 => f x y hc2 fun d => P d hc2 := rfl
theorem e_Un : cUn f1 ca E sc hc P = ca E sc hc fun x hc1 => f1 x hc1 fun d => P d hc1 := rfl
theorem e_Fn : cFn fn c E sc hc P = c E sc hc fun ds hc1 => fn ds hc1 fun d => P d hc1 := rfl
theorem e_Call : cCall sp c E sc hc P = c E sc hc fun ds hc1 => sp ds hc1 P fun x hc2 => E x sc hc2 := rfl
theorem e_Nil : cNil E sc hc PA = PA [] hc := rfl
theorem e_Cons : cCons ca c E sc hc PA = ca E sc hc fun d hc1 => c E sc hc1 fun ds hc2 => PA (d :: ds) hc2 := rfl
theorem e_Tup : cTup c E sc hc P = c E sc hc fun ds hc1 => ds.length ≤ sizeLine ∧ P (.tup ds) hc1 := rfl
theorem e_Lst : cLst c E sc hc P = c E sc hc fun ds hc1 => ds.length ≤ sizeLine ∧ P (.lst ds) hc1 := rfl
theorem e_NoP : cNoP E sc hc PO = PO none hc := rfl
theorem e_SoP : cSoP ca E sc hc PO = ca E sc hc fun d hc1 => match d with | .int i => PO (some i) hc1 | _ => False := rfl
theorem e_Sl : cSl ca cl ch E sc hc P = ca E sc hc fun x hc1 => cl E sc hc1 fun l hc2 => ch E sc hc2 fun u hc3 => slD x l u hc3 fun d => P d hc3 := rfl
theorem e_T : cT ca E sc hc PT = ca E sc hc fun d hc' => match d with | .bl b => PT b hc' | _ => False := rfl
theorem e_And : cAnd t u E sc hc PT = t E sc hc fun b hc1 => if b = true then u E sc hc1 PT else PT false hc1 := rfl
theorem e_Or : cOr t u E sc hc PT = t E sc hc fun b hc1 => if b = true then PT true hc1 else u E sc hc1 PT := rfl
theorem e_Not : cNot t E sc hc PT = t E sc hc fun b hc1 => PT (!b) hc1 := rfl
theorem e_If : cIf t ca cb E sc hc P = t E sc hc fun b hc1 => if b = true then ca E sc hc1 P else cb E sc hc1 P := rfl
theorem e_gN : gN i E d sc hc PS = PS (sc.set i (.val d)) hc := rfl
theorem e_Asg : cAsg ca g C sc hc = ca C.xp sc hc fun d hc1 => g C.xp d sc hc1 C.nx := rfl
theorem e_Ret : cRet ca C sc hc = ca C.xp sc hc C.rt := rfl
theorem e_RetN : cRetN C sc hc = C.rt .non hc := rfl
theorem e_Next : cNext C sc hc = C.nx sc hc := rfl
theorem e_IfS : cIfS t s1 s2 C sc hc = t C.xp sc hc fun b hc1 => if b = true then s1 C sc hc1 else s2 C sc hc1 := rfl
theorem e_For : cFor ci g s1 C sc hc = ci C.xp sc hc fun ds hc1 => forW g s1 ds C sc hc1 := rfl
theorem e_It : cIt ca E sc hc PA = ca E sc hc fun d hc1 => match d with | .lst xs => PA xs hc1 | .tup xs => PA xs hc1 | .frz xs => PA xs hc1 | _ => False := rfl
theorem e_R1 : cR1 c E sc hc PA = c E sc hc fun ds hc1 => match ds with | [.int hi] => PA (rngD 0 hi) hc1 | _ => False := rfl
theorem e_R2 : cR2 c E sc hc PA = c E sc hc fun ds hc1 => match ds with | [.int lo, .int hi] => PA (rngD lo hi) hc1 | _ => False := rfl
theorem e_Drop : cDrop ca C sc hc = ca C.xp sc hc fun _ hc1 => C.nx sc hc1 := rfl
theorem e_Par : cPar i j c C sc hc = c C.xp sc hc fun ds hc1 => match ds with | [x, y] => C.nx ((sc.set i (.val x)).set j (.val y)) hc1 | _ => False := rfl
theorem e_Par3 : cPar3 i j l c C sc hc = c C.xp sc hc fun ds hc1 => match ds with | [x, y, z] => C.nx (((sc.set i (.val x)).set j (.val y)).set l (.val z)) hc1 | _ => False := rfl
theorem e_App : cApp i ca C sc hc = (match lookO sc i with | some ds => ds.length < sizeLine ∧ ca C.xp sc hc fun d hc1 => C.nx (sc.set i (.own (ds ++ [d]))) hc1 | none => False) := rfl
theorem e_SetO : cSetO i c C sc hc = c C.xp sc hc fun ds hc1 => ds.length ≤ sizeLine ∧ C.nx (sc.set i (.own ds)) hc1 := rfl
theorem e_Give : cGive i s1 C sc hc = (match lookO sc i with | some ds => s1 C (sc.set i (.val (.lst ds))) hc | none => False) := rfl
theorem look_0 {r : List Sl} : look (.val d :: r) 0 = some d := rfl
theorem look_s {x : Sl} {r : List Sl} {n : Nat} : look (x :: r) (n + 1) = look r n := by cases x <;> rfl
theorem lookO_0 {r : List Sl} : lookO (.own ds :: r) 0 = some ds := rfl
theorem lookO_s {x : Sl} {r : List Sl} {n : Nat} : lookO (x :: r) (n + 1) = lookO r n := by cases x <;> rfl
end
theorem ixN_nat {n j : Nat} {i : Int} (hi : i = (j : Int)) (h : j < n) : ixN n i = some j := by
  unfold ixN
  rw [if_pos (by omega), if_pos (by omega)]
  rw [show i.toNat = j by omega]
theorem atI_nat' {xs : List D} {i : Int} {j : Nat} {d : D} (hi : i = (j : Int)) (h : xs[j]? = some d) : atI xs i = some d := by
  have lt : j < xs.length := by
    by_cases l : j < xs.length
    · exact l
    · rw [List.getElem?_eq_none (by omega)] at h; cases h
  unfold atI
  rw [ixN_nat hi lt]
  exact h
theorem atD_nat {xs : List D} {i : Int} {j : Nat} {d : D} {P : D → Prop} (hi : i = (j : Int)) (h : xs[j]? = some d) (q : P d) : oth (atI xs i) P := oth_some (atI_nat' hi h) q
/-- an index that lies in it: all that may stand there -/
theorem atD_all {xs : List D} {i : Int} {P : D → Prop} (h0 : 0 ≤ i) (h1 : i < xs.length) (q : ∀ j : Nat, ∀ d, i = (j : Int) → xs[j]? = some d → P d) : oth (atI xs i) P :=
  have lt : i.toNat < xs.length := by omega
  atD_nat (j := i.toNat) (by omega) (List.getElem?_eq_getElem lt) (q _ _ (by omega) (List.getElem?_eq_getElem lt))
theorem set_nat {ds : List D} {k : Int} (h0 : 0 ≤ k) (h1 : k < ds.length) : ixN ds.length k = some k.toNat := by
  unfold ixN
  rw [if_pos h0, if_pos h1]
theorem updc_same {hc : CH} {p : Addr} {ds : List D} : updc hc p ds p = some ds := by unfold updc; rw [if_pos rfl]
theorem updc_ne {hc : CH} {p q : Addr} {ds : List D} (h : q ≠ p) : updc hc p ds q = hc q := by unfold updc; rw [if_neg h]
/-- a loop by an invariant: a turn goes on with whatever follows from the invariant behind it -/
theorem forW_inv {g : CGx} {c : CSx} (I : Nat → List Sl → CH → Prop) : ∀ (ds : List D) (i : Nat) {C : CEnds} {sc : List Sl} {hc : CH}, I i sc hc →
    (∀ (j : Nat) (d : D) sc hc (Nx : List Sl → CH → Prop), ds[j]? = some d → I (i + j) sc hc → (∀ sc' hc', I (i + j + 1) sc' hc' → Nx sc' hc') → g C.xp d sc hc fun sc1 hc1 => c { nx := Nx, ct := Nx, bk := C.nx, rt := C.rt, xp := C.xp } sc1 hc1) →
    (∀ sc hc, I (i + ds.length) sc hc → C.nx sc hc) → forW g c ds C sc hc
  | [], i, C, sc, hc, h, _, q => q sc hc h
  | d :: ds, i, C, sc, hc, h, t, q => by
    refine t 0 d sc hc (fun s h => forW g c ds C s h) rfl h fun sc' hc' k => ?_
    refine forW_inv I ds (i + 1) k (fun j d' s3 h3 Nx e k3 nx => ?_) fun s3 h3 k3 => q s3 h3 (by rw [List.length_cons, show i + (ds.length + 1) = i + 1 + ds.length by omega]; exact k3)
    refine t (j + 1) d' s3 h3 Nx e (by rw [show i + (j + 1) = i + 1 + j by omega]; exact k3) fun sc4 hc4 k4 => nx sc4 hc4 ?_
    rw [show i + 1 + j + 1 = i + (j + 1) + 1 by omega]
    exact k4
theorem for_inv {g : CGx} {c : CSx} (I : Nat → List Sl → CH → Prop) {ds : List D} {C : CEnds} {sc : List Sl} {hc : CH} (h : I 0 sc hc)
    (t : ∀ (j : Nat) (d : D) sc hc (Nx : List Sl → CH → Prop), ds[j]? = some d → I j sc hc → (∀ sc' hc', I (j + 1) sc' hc' → Nx sc' hc') → g C.xp d sc hc fun sc1 hc1 => c { nx := Nx, ct := Nx, bk := C.nx, rt := C.rt, xp := C.xp } sc1 hc1)
    (q : ∀ sc hc, I ds.length sc hc → C.nx sc hc) : forW g c ds C sc hc :=
  forW_inv I ds 0 h (fun j d sc hc Nx e k nx => t j d sc hc Nx e (by rw [Nat.zero_add] at k; exact k) fun s h z => nx s h (by rw [Nat.zero_add]; exact z)) fun sc hc k => q sc hc (by rw [Nat.zero_add] at k; exact k)
/-- a while by an invariant with a measure -/
theorem wh_inv {t : CTx} {c : CSx} {C : CEnds} (I : Nat → List Sl → CH → Prop)
    (st : ∀ m sc hc (Nx : List Sl → CH → Prop), I m sc hc → (∀ m' sc' hc', m' < m → I m' sc' hc' → Nx sc' hc') → t C.xp sc hc fun b hc1 => if b = true then c { nx := Nx, ct := Nx, bk := C.nx, rt := C.rt, xp := C.xp } sc hc1 else C.nx sc hc1) {m : Nat} {sc : List Sl} {hc : CH} (h : I m sc hc) : cWhile t c C sc hc := by
  have all : ∀ k m sc hc, m < k → I m sc hc → whN t c k C sc hc := by
    intro k
    induction k with
    | zero => intro m sc hc l; omega
    | succ k ih =>
      intro m sc hc l h
      exact st m sc hc (fun s h => whN t c k C s h) h fun m' sc' hc' l' h' => ih m' sc' hc' (by omega) h'
  exact ⟨m + 1, all (m + 1) m sc hc (Nat.lt_succ_self m) h⟩
/-- a comprehension by an invariant -/
theorem lcW_inv {g : CGx} {t : CTx} {ce : CEx} {own : List Nat} {sc : List Sl} (I : Nat → List D → CH → Prop) : ∀ (ds : List D) (i : Nat) {acc : List D} {hc : CH} {P : List D → CH → Prop}, I i acc hc →
    (∀ (j : Nat) (d : D) acc hc (Nx : List D → CH → Prop), ds[j]? = some d → I (i + j) acc hc → (∀ acc' hc', I (i + j + 1) acc' hc' → Nx acc' hc') → g (fun _ _ _ => False) d (wipeC sc own) hc fun sc1 hc1 => t (fun _ _ _ => False) sc1 hc1 fun b hc2 =>
      if b = true then ce (fun _ _ _ => False) sc1 hc2 fun y hc3 => Nx (acc ++ [y]) hc3 else Nx acc hc2) →
    (∀ acc hc, I (i + ds.length) acc hc → P acc hc) → lcW g t ce own sc ds acc hc P
  | [], i, acc, hc, P, h, _, q => q acc hc h
  | d :: ds, i, acc, hc, P, h, tn, q => by
    refine tn 0 d acc hc (fun a h => lcW g t ce own sc ds a h P) rfl h fun acc' hc' k => ?_
    refine lcW_inv I ds (i + 1) k (fun j d' s3 h3 Nx e k3 nx => ?_) fun s3 h3 k3 => q s3 h3 (by rw [List.length_cons, show i + (ds.length + 1) = i + 1 + ds.length by omega]; exact k3)
    refine tn (j + 1) d' s3 h3 Nx e (by rw [show i + (j + 1) = i + 1 + j by omega]; exact k3) fun sc4 hc4 k4 => nx sc4 hc4 ?_
    rw [show i + 1 + j + 1 = i + (j + 1) + 1 by omega]
    exact k4
/-- a comprehension over one name, without a test, that is a map -/
theorem lc_map {i : Nat} {ce : CEx} {own : List Nat} {sc : List Sl} {hc : CH} (f : D → D) {ds : List D} {P : List D → CH → Prop}
    (st : ∀ d ∈ ds, ∀ Nx : D → CH → Prop, Nx (f d) hc → ce (fun _ _ _ => False) ((wipeC sc own).set i (.val d)) hc Nx) (q : P (ds.map f) hc) : lcW (gN i) cYes ce own sc ds [] hc P := by
  refine lcW_inv (fun j acc h => h = hc ∧ acc = (ds.take j).map f) ds 0 ⟨rfl, by simp⟩ (fun j d acc h Nx e ⟨k1, k2⟩ nx => ?_) fun acc h ⟨k1, k2⟩ => ?_
  · subst k1
    rw [Nat.zero_add] at k2 nx
    show (if true = true then ce (fun _ _ _ => False) ((wipeC sc own).set i (.val d)) h (fun y h3 => Nx (acc ++ [y]) h3) else Nx acc h)
    rw [if_pos rfl]
    refine st d (List.mem_of_getElem? e) (fun y h3 => Nx (acc ++ [y]) h3) (nx _ _ ⟨rfl, ?_⟩)
    rw [k2, List.take_add_one, e, List.map_append]
    rfl
  · rw [Nat.zero_add, List.take_length] at k2
    rw [k1, k2]
    exact q
end Mn

namespace Mn
open PySem PySem.Spec PyProof.Rows L2
/-! ### == of flat data -/
def okD : Nat → D → Bool
  | _, .non => true
  | _, .int _ => true
  | _, .str s => PyData.canLay0 (.str s)
  | n + 1, .tup xs => xs.all (okD n)
  | n + 1, .lst xs => xs.all (okD n)
  | _, _ => false
theorem okD_bl {m : Nat} {b : Bool} : okD m (.bl b) = false := by cases m <;> rfl
theorem okD_ref {m : Nat} {b : Addr} : okD m (.ref b) = false := by cases m <;> rfl
theorem okD_frz {m : Nat} {b : List D} : okD m (.frz b) = false := by cases m <;> rfl
theorem okD_clo {m : Nat} {f ws xs} : okD m (.clo f ws xs) = false := by cases m <;> rfl
theorem okD_fn {m : Nat} {x} : okD m (.fn x) = false := by cases m <;> rfl
theorem okD_exn {m : Nat} {a dx ns xs} : okD m (.exn a dx ns xs) = false := by cases m <;> rfl
theorem okD_dct {m : Nat} {b c} : okD m (.dct b c) = false := by cases m <;> rfl
theorem okD_non {m : Nat} : okD m .non = true := by cases m <;> rfl
theorem okD_int {m : Nat} {i : Int} : okD m (.int i) = true := by cases m <;> rfl
theorem okD_str {m : Nat} {s : Str} : okD m (.str s) = PyData.canLay0 (.str s) := by cases m <;> rfl
def OkPy (n : Nat) (d : D) : Prop := ∃ p, toPy d = some p ∧ p.canLay0 = true ∧ p.depth ≤ n ∧ ∀ e m q, okD m e = true → toPy e = some q → (PyData.eqv p q = true ↔ d = e)
def OkPyL (n : Nat) (ds : List D) : Prop := ∃ ps, toPyL ds = some ps ∧ PyData.canLayAll0 ps = true ∧ PyData.depthAll ps ≤ n ∧ ∀ es m qs, es.all (okD m) = true → toPyL es = some qs → (PyData.eqvAll ps qs = true ↔ ds = es)
theorem okPyL {n : Nat} (ih : ∀ d, okD n d = true → OkPy n d) : ∀ ds : List D, ds.all (okD n) = true → OkPyL n ds
  | [], _ => ⟨[], rfl, rfl, Nat.zero_le _, fun es m qs h e => by
    cases es with
    | nil => unfold toPyL at e; cases e; exact ⟨fun _ => rfl, fun _ => rfl⟩
    | cons d es =>
      unfold toPyL at e
      split at e
      · cases e; exact ⟨fun z => by simp [PyData.eqvAll] at z, fun z => by cases z⟩
      · cases e⟩
  | d :: ds, h => by
    rw [List.all_cons, Bool.and_eq_true] at h
    obtain ⟨p, e1, c1, l1, k1⟩ := ih d h.1
    obtain ⟨ps, e2, c2, l2, k2⟩ := okPyL ih ds h.2
    refine ⟨p :: ps, by unfold toPyL; rw [e1, e2], by simp [PyData.canLayAll0, c1, c2], by simp [PyData.depthAll]; omega, fun es m qs h' e => ?_⟩
    cases es with
    | nil => unfold toPyL at e; cases e; exact ⟨fun z => by simp [PyData.eqvAll] at z, fun z => by cases z⟩
    | cons d' es =>
      unfold toPyL at e
      rw [List.all_cons, Bool.and_eq_true] at h'
      split at e
      · next q qs' f1 f2 =>
        cases e
        simp only [PyData.eqvAll, Bool.and_eq_true]
        rw [k1 _ m _ h'.1 f1, k2 _ m _ h'.2 f2]
        exact ⟨fun ⟨a, b⟩ => by rw [a, b], fun z => by cases z; exact ⟨rfl, rfl⟩⟩
      · cases e
theorem eqv_no {p q : PyData} (h : PyData.eqv p q = false) {d e : D} (n : d ≠ e) : PyData.eqv p q = true ↔ d = e := by
  rw [h]; exact ⟨fun z => (by cases z), fun z => absurd z n⟩
theorem okPy : ∀ (n : Nat) (d : D), okD n d = true → OkPy n d
  | n, .non, _ => ⟨.none, by unfold toPy; rfl, rfl, by simp [PyData.depth], fun e m q h t => by
    cases e <;> unfold toPy at t <;> (try simp only [okD_bl, okD_ref, okD_frz, okD_dct, Bool.false_eq_true] at h) <;> try (cases t) <;> try exact eqv_no rfl (fun z => nomatch z)
    · exact ⟨fun _ => rfl, fun _ => rfl⟩
    all_goals (first | (obtain ⟨_, _, rfl⟩ := Option.map_eq_some_iff.mp t; exact eqv_no (by simp [PyData.eqv]) (fun z => nomatch z)))⟩
  | n, .int i, _ => ⟨.int i, by unfold toPy; rfl, rfl, by simp [PyData.depth], fun e m q h t => by
    cases e <;> unfold toPy at t <;> (try simp only [okD_bl, okD_ref, okD_frz, okD_dct, Bool.false_eq_true] at h) <;> try (cases t) <;> try exact eqv_no rfl (fun z => nomatch z)
    · simp [PyData.eqv]
    all_goals (first | (obtain ⟨_, _, rfl⟩ := Option.map_eq_some_iff.mp t; exact eqv_no (by simp [PyData.eqv]) (fun z => nomatch z)))⟩
  | n, .str i, g => ⟨.str i, by unfold toPy; rfl, by cases n <;> exact g, by simp [PyData.depth], fun e m q h t => by
    cases e <;> unfold toPy at t <;> (try simp only [okD_bl, okD_ref, okD_frz, okD_dct, Bool.false_eq_true] at h) <;> try (cases t) <;> try exact eqv_no rfl (fun z => nomatch z)
    · simp [PyData.eqv]
    all_goals (first | (obtain ⟨_, _, rfl⟩ := Option.map_eq_some_iff.mp t; exact eqv_no (by simp [PyData.eqv]) (fun z => nomatch z)))⟩
  | n + 1, .tup xs, g => by
    obtain ⟨ps, e1, c1, l1, k1⟩ := okPyL (okPy n) xs g
    refine ⟨.tuple ps, by unfold toPy; rw [e1]; rfl, c1, by simp [PyData.depth]; omega, fun e m q h t => ?_⟩
    cases e <;> unfold toPy at t <;> (try simp only [okD_bl, okD_ref, okD_frz, okD_dct, Bool.false_eq_true] at h) <;> try (cases t) <;> try exact eqv_no (by simp [PyData.eqv]) (fun z => nomatch z)
    · next ys =>
      obtain ⟨qs, e2, rfl⟩ := Option.map_eq_some_iff.mp t
      cases m with
      | zero => simp [okD] at h
      | succ m =>
        simp only [PyData.eqv]
        rw [k1 ys m qs (by simpa [okD] using h) e2]
        exact ⟨fun z => by rw [z], fun z => by cases z; rfl⟩
    · obtain ⟨_, _, rfl⟩ := Option.map_eq_some_iff.mp t; exact eqv_no (by simp [PyData.eqv]) (fun z => nomatch z)
  | n + 1, .lst xs, g => by
    obtain ⟨ps, e1, c1, l1, k1⟩ := okPyL (okPy n) xs g
    refine ⟨.list ps, by unfold toPy; rw [e1]; rfl, c1, by simp [PyData.depth]; omega, fun e m q h t => ?_⟩
    cases e <;> unfold toPy at t <;> (try simp only [okD_bl, okD_ref, okD_frz, okD_dct, Bool.false_eq_true] at h) <;> try (cases t) <;> try exact eqv_no (by simp [PyData.eqv]) (fun z => nomatch z)
    · obtain ⟨_, _, rfl⟩ := Option.map_eq_some_iff.mp t; exact eqv_no (by simp [PyData.eqv]) (fun z => nomatch z)
    · next ys =>
      obtain ⟨qs, e2, rfl⟩ := Option.map_eq_some_iff.mp t
      cases m with
      | zero => simp [okD] at h
      | succ m =>
        simp only [PyData.eqv]
        rw [k1 ys m qs (by simpa [okD] using h) e2]
        exact ⟨fun z => by rw [z], fun z => by cases z; rfl⟩
  | 0, .tup xs, g => by simp [okD] at g
  | 0, .lst xs, g => by simp [okD] at g
  | n, .bl _, g => by rw [okD_bl] at g; cases g
  | n, .ref _, g => by rw [okD_ref] at g; cases g
  | n, .frz _, g => by rw [okD_frz] at g; cases g
  | n, .clo _ _ _, g => by rw [okD_clo] at g; cases g
  | n, .exn _ _ _ _, g => by rw [okD_exn] at g; cases g
  | n, .fn _, g => by rw [okD_fn] at g; cases g
  | n, .dct _ _, g => by rw [okD_dct] at g; cases g
theorem shaped_ok {p : PyData} {n : Nat} (c : p.canLay0 = true) (l : p.depth ≤ n) (h : n ≤ 64) : SeqAt.shaped p = true := by
  unfold SeqAt.shaped
  rw [c, decide_eq_true (by omega)]
  rfl
theorem eqG_ok {neg : Bool} {n m : Nat} {x y : D} {P : D → Prop} (hx : okD n x = true) (hy : okD m y = true) (h1 : x = y → P (.bl (!neg))) (h2 : x ≠ y → P (.bl neg)) (hn : n ≤ 64 := by decide) (hm : m ≤ 64 := by decide) : eqG neg x y P := by
  obtain ⟨p, e1, c1, l1, k1⟩ := okPy n x hx
  obtain ⟨q, e2, c2, l2, _⟩ := okPy m y hy
  refine ⟨p, q, e1, e2, shaped_ok c1 l1 hn, shaped_ok c2 l2 hm, ?_⟩
  have k := k1 y m q hy e2
  cases z : PyData.eqv p q with
  | true =>
    have := h1 (k.mp z)
    cases neg <;> exact this
  | false =>
    have := h2 fun w => by rw [k.mpr w] at z; cases z
    cases neg <;> exact this
/-- == of flat data: equal as data -/
theorem eqD_ok {x y : D} {hc : CH} {P : D → Prop} (n m : Nat) (hx : okD n x = true) (hy : okD m y = true) (h1 : x = y → P (.bl true)) (h2 : x ≠ y → P (.bl false)) (hn : n ≤ 64 := by decide) (hm : m ≤ 64 := by decide) : eqD x y hc P := by
  unfold eqD
  split
  · next i j =>
    by_cases e : i = j
    · rw [decide_eq_true e]; exact h1 (by rw [e])
    · rw [decide_eq_false e]; exact h2 fun z => e (by cases z; rfl)
  · next i j =>
    by_cases e : i = j
    · rw [decide_eq_true e]; exact h1 (by rw [e])
    · rw [decide_eq_false e]; exact h2 fun z => e (by cases z; rfl)
  · exact h1 rfl
  · exact eqG_ok hx hy h1 h2 hn hm
theorem neD_ok {x y : D} {hc : CH} {P : D → Prop} (n m : Nat) (hx : okD n x = true) (hy : okD m y = true) (h1 : x = y → P (.bl false)) (h2 : x ≠ y → P (.bl true)) (hn : n ≤ 64 := by decide) (hm : m ≤ 64 := by decide) : neD x y hc P := by
  unfold neD
  split
  · next i j =>
    by_cases e : i = j
    · rw [decide_eq_true e]; exact h1 (by rw [e])
    · rw [decide_eq_false e]; exact h2 fun z => e (by cases z; rfl)
  · next i j =>
    by_cases e : i = j
    · rw [decide_eq_true e]; exact h1 (by rw [e])
    · rw [decide_eq_false e]; exact h2 fun z => e (by cases z; rfl)
  · exact h1 rfl
  · exact eqG_ok hx hy h1 h2 hn hm
/-- the end of most laws: both sides are the same flat data -/
theorem eqD_same {x : D} {hc : CH} {P : D → Prop} (n : Nat) (hx : okD n x = true) (h : P (.bl true)) (hn : n ≤ 64 := by decide) : eqD x x hc P := eqD_ok n n hx hx (fun _ => h) (fun z => absurd rfl z) hn hn
/-- a for loop: what it runs over is a letter -/
theorem for_step {ci : CIx} {g : CGx} {s : CSx} {C : CEnds} {sc : List Sl} {hc : CH}
    (h : ∀ R : List D → CH → Prop, (∀ (ds : List D) (hc1 : CH) (I : Nat → List Sl → CH → Prop), I 0 sc hc1 →
      (∀ (j : Nat) (d : D) sc hc (Nx : List Sl → CH → Prop), ds[j]? = some d → I j sc hc → (∀ sc' hc', I (j + 1) sc' hc' → Nx sc' hc') → g C.xp d sc hc fun sc1 hc1 => s { nx := Nx, ct := Nx, bk := C.nx, rt := C.rt, xp := C.xp } sc1 hc1) →
      (∀ sc hc, I ds.length sc hc → C.nx sc hc) → R ds hc1) → ci C.xp sc hc R) : cFor ci g s C sc hc :=
  h (fun ds hc1 => forW g s ds C sc hc1) fun _ _ I b t e => for_inv I b t e
theorem rng_at {hi : Int} {j : Nat} {d : D} (h : (rngD 0 hi)[j]? = some d) : d = .int j ∧ (j : Int) < hi := by
  unfold rngD at h
  rw [List.getElem?_map] at h
  cases e : (List.range (hi - 0).toNat)[j]? with
  | none => rw [e] at h; cases h
  | some x =>
    rw [e] at h
    obtain ⟨hj, hx⟩ := List.getElem?_eq_some_iff.mp e
    rw [List.length_range] at hj
    rw [List.getElem_range] at hx
    subst hx
    cases h
    exact ⟨by show D.int (0 + (j : Int)) = _; rw [Int.zero_add], by omega⟩
theorem rng_at2 {lo hi : Int} {j : Nat} {d : D} (h : (rngD lo hi)[j]? = some d) : d = .int (lo + j) ∧ lo + (j : Int) < hi := by
  unfold rngD at h
  rw [List.getElem?_map] at h
  cases e : (List.range (hi - lo).toNat)[j]? with
  | none => rw [e] at h; cases h
  | some x =>
    rw [e] at h
    obtain ⟨hj, hx⟩ := List.getElem?_eq_some_iff.mp e
    rw [List.length_range] at hj
    rw [List.getElem_range] at hx
    subst hx
    cases h
    exact ⟨rfl, by omega⟩
theorem rng_len {hi : Int} : (rngD 0 hi).length = hi.toNat := by
  unfold rngD
  rw [List.length_map, List.length_range, Int.sub_zero]
theorem rng_len2 {lo hi : Int} : (rngD lo hi).length = (hi - lo).toNat := by
  unfold rngD
  rw [List.length_map, List.length_range]
/-! ### what the rules say at data -/
section
variable {hc : CH} {P : D → Prop} {i j : Int} {a : Addr} {b : Bool} {xs ys : List D} {x y : Str} {C : Int → Int → Prop} {g : Int → Int → Int} {gb : Int → Int → Bool}
theorem o_addI : addD (.int i) (.int j) hc P = P (.int (i + j)) := rfl
theorem o_addS : addD (.str x) (.str y) hc P = (x.length + y.length ≤ sizeLine ∧ P (.str (x ++ y))) := rfl
theorem o_addL : addD (.lst xs) (.lst ys) hc P = (xs.length + ys.length ≤ sizeLine ∧ P (.lst (xs ++ ys))) := rfl
theorem o_addT : addD (.tup xs) (.tup ys) hc P = (xs.length + ys.length ≤ sizeLine ∧ P (.tup (xs ++ ys))) := rfl
theorem o_addR : addD (.ref a) (.lst ys) hc P = oth (hc a) fun xs => xs.length + ys.length ≤ sizeLine ∧ P (.lst (xs ++ ys)) := rfl
theorem o_addR' : addD (.lst xs) (.ref a) hc P = oth (hc a) fun ys => xs.length + ys.length ≤ sizeLine ∧ P (.lst (xs ++ ys)) := rfl
theorem o_sub : subD (.int i) (.int j) hc P = P (.int (i - j)) := rfl
theorem o_mul : mulD (.int i) (.int j) hc P = (MulOk i j ∧ P (.int (i * j))) := rfl
theorem o_mulL : mulD (.lst xs) (.int i) hc P = ((-(2 ^ 63) ≤ i ∧ i < 2 ^ 63 ∧ xs.length * i.toNat ≤ sizeLine) ∧ P (.lst (List.replicate i.toNat xs).flatten)) := rfl
theorem o_fdiv : fdivD (.int i) (.int j) hc P = (DivOk i j ∧ P (.int (i / j))) := rfl
theorem o_mod : modD (.int i) (.int j) hc P = (0 < j ∧ P (.int (i % j))) := rfl
theorem o_pow : powD (.int i) (.int j) hc P = (CPow i j ∧ P (.int (i ^ j.toNat))) := rfl
theorem o_shl : shlD (.int i) (.int j) hc P = (CShl i j ∧ P (.int (i * 2 ^ j.toNat))) := rfl
theorem o_shr : shrD (.int i) (.int j) hc P = (0 ≤ j ∧ P (.int (i / 2 ^ j.toNat))) := rfl
theorem o_and : andD (.int i) (.int j) hc P = P (.int (Builtin.bitAnd i j)) := rfl
theorem o_or : orD (.int i) (.int j) hc P = P (.int (Builtin.bitOr i j)) := rfl
theorem o_neg : negD (.int i) hc P = P (.int (-i)) := rfl
theorem o_eqI : eqD (.int i) (.int j) hc P = P (.bl (decide (i = j))) := rfl
theorem o_eqS : eqD (.str x) (.str y) hc P = P (.bl (decide (x = y))) := rfl
theorem o_neI : neD (.int i) (.int j) hc P = P (.bl (!decide (i = j))) := rfl
theorem o_neS : neD (.str x) (.str y) hc P = P (.bl (!decide (x = y))) := rfl
theorem o_lt : ltD (.int i) (.int j) hc P = P (.bl (decide (i < j))) := rfl
theorem o_le : leD (.int i) (.int j) hc P = P (.bl (decide (i ≤ j))) := rfl
theorem o_gt : gtD (.int i) (.int j) hc P = P (.bl (decide (j < i))) := rfl
theorem o_ge : geD (.int i) (.int j) hc P = P (.bl (decide (j ≤ i))) := rfl
theorem o_ixL : ixD (.lst xs) (.int i) hc P = oth (atI xs i) P := rfl
theorem o_ixT : ixD (.tup xs) (.int i) hc P = oth (atI xs i) P := rfl
theorem o_ixR : ixD (.ref a) (.int i) hc P = oth (hc a) fun xs => oth (atI xs i) P := rfl
theorem o_abs : absD [.int i] hc P = P (.int (if i < 0 then -i else i)) := rfl
theorem o_int : intFD [.int i] hc P = P (.int i) := rfl
theorem o_max : maxD2 [.int i, .int j] hc P = P (.int (if j > i then j else i)) := rfl
theorem o_min : minD2 [.int i, .int j] hc P = P (.int (if j < i then j else i)) := rfl
theorem o_lenL : lenD [.lst xs] hc P = P (.int xs.length) := rfl
theorem o_lenT : lenD [.tup xs] hc P = P (.int xs.length) := rfl
theorem o_lenF : lenD [.frz xs] hc P = P (.int xs.length) := rfl
theorem o_lenR : lenD [.ref a] hc P = oth (hc a) fun xs => P (.int xs.length) := rfl
theorem o_slL {lo hi : Option Int} : slD (.lst xs) lo hi hc P = P (.lst (cutX xs lo hi)) := rfl
theorem o_slT {lo hi : Option Int} : slD (.tup xs) lo hi hc P = P (.tup (cutX xs lo hi)) := rfl
theorem o_slF {lo hi : Option Int} : slD (.frz xs) lo hi hc P = P (.lst (cutX xs lo hi)) := rfl
theorem e_Ch {f g : O2} {ca cb cc : CEx} {E : XP} {sc : List Sl} {P : D → CH → Prop} : cCh f g ca cb cc E sc hc P = ca E sc hc fun x hc1 => cb E sc hc1 fun y hc2 => f x y hc2 fun d => match d with
  | .bl true => cc E sc hc2 fun z hc3 => g y z hc3 fun d => P d hc3
  | .bl false => P (.bl false) hc2
  | _ => False := rfl
theorem e_AndV {ca cb : CEx} {E : XP} {sc : List Sl} {P : D → CH → Prop} : cAndV ca cb E sc hc P = ca E sc hc fun d hc1 => match d with | .bl true => cb E sc hc1 P | .bl false => P (.bl false) hc1 | _ => False := rfl
theorem e_OrV {ca cb : CEx} {E : XP} {sc : List Sl} {P : D → CH → Prop} : cOrV ca cb E sc hc P = ca E sc hc fun d hc1 => match d with | .bl true => P (.bl true) hc1 | .bl false => cb E sc hc1 P | _ => False := rfl
theorem e_NotV {ca : CEx} {E : XP} {sc : List Sl} {P : D → CH → Prop} : cNotV ca E sc hc P = ca E sc hc fun d hc1 => match d with | .bl b => P (.bl (!b)) hc1 | _ => False := rfl
theorem at_0 {d : D} : oth (atI (d :: xs) 0) P = P d := by
  have : atI (d :: xs) 0 = some d := atI_nat' (j := 0) rfl rfl
  rw [this]
  exact propext ⟨fun h => by obtain ⟨_, e, h⟩ := oth_of h; cases e; exact h, fun h => oth_some rfl h⟩
theorem at_1 {d e : D} : oth (atI (d :: e :: xs) 1) P = P e := by
  have : atI (d :: e :: xs) 1 = some e := atI_nat' (j := 1) rfl rfl
  rw [this]
  exact propext ⟨fun h => by obtain ⟨_, e, h⟩ := oth_of h; cases e; exact h, fun h => oth_some rfl h⟩
theorem at_2 {d e f : D} : oth (atI (d :: e :: f :: xs) 2) P = P f := by
  have : atI (d :: e :: f :: xs) 2 = some f := atI_nat' (j := 2) rfl rfl
  rw [this]
  exact propext ⟨fun h => by obtain ⟨_, e, h⟩ := oth_of h; cases e; exact h, fun h => oth_some rfl h⟩
end
end Mn

namespace Mn
open PySem PySem.Spec PyProof.Rows L2
/-! ### what the statics and the table of modules are -/
def statK (K : PySem.W.Frag) : Bool := (match PySem.W.nsIn K cStatics "sys.int_max_str_digits" with | some none => true | _ => false) && (match K.lookup sysModules with | some ⟨_, _, .dict _ _, _⟩ => true | _ => false)
structure Stat (h : Heap) : Prop where
  lim : ∃ mc, h.Ns cStatics mc ∧ mc "sys.int_max_str_digits" = none
  mods : ∃ o es n, h.get? sysModules = some o ∧ o.data = .dict es n
theorem Stat.keeps {h h' : Heap} (x : Stat h) (k : ∀ b o, h.get? b = some o → h'.get? b = some o) : Stat h' := by
  obtain ⟨⟨mc, ⟨o, es, ep, e1, e2, e3⟩, z⟩, ⟨o2, es2, n, f1, f2⟩⟩ := x
  exact ⟨⟨mc, ⟨o, es, ep, k _ _ e1, e2, e3⟩, z⟩, ⟨o2, es2, n, k _ _ f1, f2⟩⟩
theorem ns_none {K : PySem.W.Frag} {h : Heap} {a : Addr} {m : Str → Option Value} {x : Str} (KX : K.In h) (N : h.Ns a m) (q : PySem.W.nsIn K a x = some none) : m x = none := by
  obtain ⟨ob, ents, pp, g1, g2, _, g3⟩ := N
  unfold PySem.W.nsIn at q
  split at q
  · rename_i cc dd ents2 nn sl kq
    have same := KX _ _ kq
    rw [g1] at same; cases same; cases g2
    split at q
    · cases q
    · rename_i fnd
      rw [← g3 x]
      unfold nsFind findBy
      rw [← Array.find?_toList, fnd]
      rfl
  · cases q
theorem stat_of {K : PySem.W.Frag} {h : Heap} (KX : K.In h) (NL : h.NoLimit) (c : statK K = true) : Stat h := by
  unfold statK at c
  rw [Bool.and_eq_true] at c
  obtain ⟨c1, c2⟩ := c
  constructor
  · obtain ⟨mc, N, _⟩ := NL
    refine ⟨mc, N, ns_none KX N ?_⟩
    revert c1
    cases PySem.W.nsIn K cStatics "sys.int_max_str_digits" with
    | none => intro c1; cases c1
    | some v => cases v with
      | none => intro _; rfl
      | some u => intro c1; cases c1
  · revert c2
    cases q : K.lookup sysModules with
    | none => intro c2; cases c2
    | some o =>
      obtain ⟨oc, od, dt, osl⟩ := o
      intro c2
      cases dt with
      | dict es n => exact ⟨_, es, n, KX _ _ q, rfl⟩
      | _ => cases c2
/-! ### the hook: the module's names, the statics, the table of modules -/
def obsS (fa : List He.Fa) (fn : List He.DefD) (K : PySem.W.Frag) : He.AlD × Bool := (He.obsD fa fn K, statK K)
def SaysS (fa : List He.Fa) (fn : List He.DefD) (K : PySem.W.Frag) : Prop := obsS fa fn K = (He.valD fn, true)
def obsSG (n : Nat) (fa : List He.Fa) (fn : List He.DefD) (g : Addr → Option Obj) : He.AlD × Bool := obsS fa fn (He.frG g (He.asD g n ++ [sysModules, cStatics]))
def hookS (n : Nat) (fa : List He.Fa) (fn : List He.DefD) : PySem.W.Hook where
  α := He.AlD × Bool
  obs := fun s => obsSG n fa fn s.heap.get?
  val := fun _ => (He.valD fn, true)
  says := fun _ h => ∃ K : PySem.W.Frag, K.In h ∧ SaysS fa fn K
  of := fun _ _ e => ⟨_, He.frG_in, e⟩
  keeps := fun _ _ _ ⟨K, hK, c⟩ k => ⟨K, PySem.W.Frag.In.keeps hK k, c⟩
theorem obsSG_eq {n : Nat} {fa : List He.Fa} {fn : List He.DefD} {g : Addr → Option Obj} {s : Shared} (h : ∀ a, g a = s.heap.get? a) : obsSG n fa fn g = (hookS n fa fn).obs s := by
  have e : g = s.heap.get? := funext h
  subst e
  rfl
theorem SaysS.d {fa : List He.Fa} {fn : List He.DefD} {K : PySem.W.Frag} (c : SaysS fa fn K) : He.SaysD fa fn K := congrArg (fun z : He.AlD × Bool => z.1) c
theorem SaysS.s {fa : List He.Fa} {fn : List He.DefD} {K : PySem.W.Frag} (c : SaysS fa fn K) : statK K = true := congrArg (fun z : He.AlD × Bool => z.2) c
/-! ### texts of great integers -/
def IntTxt (i : Int) : Bool := decide (i.natAbs < 2 ^ 12900)
theorem log_of {i : Int} (h : IntTxt i = true) : i.natAbs.log2 < 12900 := by
  have h := of_decide_eq_true h
  by_cases z : i.natAbs = 0
  · rw [z]; decide
  · exact (Nat.log2_lt z).mpr h
theorem digits_ok {M : Model} {A : Around} {E : Value → Shared → Prop} {s : Shared} {a : Int} {Q : Option Nat → Shared → Prop} (S : Stat s.heap) (h : IntTxt a = true) (k : Q none s) : wpAny M A (Builtin.overDigitLimit? a) Q E s := by
  have hl := log_of h
  unfold Builtin.overDigitLimit?
  by_cases sm : a.natAbs.log2 < 1920
  · rw [if_pos sm]; exact wpAny_pure k
  · rw [if_neg sm]
    obtain ⟨⟨mc, N, z⟩, _⟩ := S
    unfold Builtin.intMaxStrDigits
    refine wpAny_bind (wpAny_bind (wpAny_nsGet N ?_))
    rw [z]
    refine wpAny_pure ?_
    dsimp only
    rw [if_neg (by omega), if_pos (by simp; omega)]
    exact wpAny_pure k
theorem int_meets (a : Int) (t : Tok) (h : IntTxt a = true) : Meets (Builtin.«int.__repr__» ⟨[.int a t], []⟩) (fun _ R s => Stat s.heap ∧ R (.ok (.ret (.str (toString a) s.toks))) { s with toks := s.toks + 1 }) := fun prog w A R s ⟨S, hq⟩ => by
  have hlen : (Str.ofString (toString a)).length ≤ sizeLine := by
    rw [PySem.ofString_length, sizeLine_eq]
    have := int_text_length_le (k := 12900) (by decide) (log_of h)
    omega
  unfold Builtin.«int.__repr__»
  show wpAny _ _ (do let r ← Builtin.overDigitLimit? a; _) _ _ _
  refine wpAny_bind (digits_ok S h ?_)
  exact wpAny_bind (wpAny_mkStr (wpAny_pure hq) hlen)
section
variable {prog : Program} {w : World} {A : Around} {E : Value → Shared → Prop} {s : Shared}
theorem call_intrepr {a : Int} {t : Tok} {Q : Value → Shared → Prop} (S : Stat s.heap) (h : IntTxt a = true) (q : Q (.str (toString a) s.toks) { s with toks := s.toks + 1 }) : wpAny (model prog w) A (call (.builtin "int.__repr__") [.int a t]) Q E s :=
  call_meets F.slot_int_repr (typeIs_int s a t) F.entry_int_repr (F.args_int_repr_1 _) (int_meets a t h) ⟨S, q⟩
end
/-! ### texts of nested data -/
mutual
def bigP : PyData → Bool
  | .none | .bool _ | .str _ => true
  | .int i => IntTxt i
  | .list xs | .tuple xs => bigPs xs
  | .dict kvs => bigKv kvs
def bigPs : List PyData → Bool
  | [] => true
  | x :: xs => bigP x && bigPs xs
def bigKv : List (PyData × PyData) → Bool
  | [] => true
  | (k, v) :: r => bigP k && (bigP v && bigKv r)
end
theorem bigKv_split : ∀ l : List (PyData × PyData), bigKv l = true → bigPs (l.map Prod.fst) = true ∧ bigPs (l.map Prod.snd) = true
  | [], _ => ⟨rfl, rfl⟩
  | (a, b) :: r, h => by
    unfold bigKv at h
    rw [Bool.and_eq_true, Bool.and_eq_true] at h
    obtain ⟨g1, g2⟩ := bigKv_split r h.2.2
    exact ⟨by show (bigP a && bigPs _) = true; rw [h.1, g1]; rfl, by show (bigP b && bigPs _) = true; rw [h.2.1, g2]; rfl⟩
section
variable {prog : Program} {w : World} {hp : Heap}
theorem intK {i : Int} (t : Tok) (S : Stat hp) (h : IntTxt i = true) (n : Nat) : ReprK prog w [] hp n (.int i t) (toString i) := fun b hb A g E s Q hg _ hu hk hQ => by
  have small : b ≤ sizeLine := by omega
  rw [pyReprUnder_leaf (v := .int i t) small (fun _ e => nomatch e)]
  unfold pyRepr
  refine wpAny_bind (wpAny_pyReprObj_slot (by omega) (typeIs_int s i t) F.slot_int_repr.toG (call_intrepr (S.keeps hk) h ⟨_, _, rfl, ?_⟩))
  exact wpAny_pure (hQ s.heap _ fun _ _ e => e)
/-- what is read of the heap, and deep enough -/
abbrev Deep (hp : Heap) (d : PyData) (bs : List Addr) : Prop := ReadAtMost hp d.depth bs
mutual
theorem treeK (S : Stat hp) : ∀ {v : Value} {d : PyData} {as : List Addr}, Reads hp v d as → bigP d = true → sysModules ∉ as → d.shown.length ≤ sizeLine → ∃ bs, Deep hp d bs ∧ ReprK prog w bs hp d.depth v d.shown
  | _, _, _, .none, _, _, _ => ⟨[], (fun _ z => nomatch z), by rw [PyData.shown]; exact .of_is .none _ _ _⟩
  | _, _, _, .bool b, _, _, _ => ⟨[], (fun _ z => nomatch z), by rw [PyData.shown]; exact .of_is (.bool b) _ _ _⟩
  | _, _, _, .int i t, hb, _, _ => ⟨[], (fun _ z => nomatch z), by rw [PyData.shown]; unfold bigP at hb; exact intK t S hb _⟩
  | _, _, _, .str x t, _, _, hl => ⟨[], (fun _ z => nomatch z), by rw [PyData.shown] at hl ⊢; exact .of_is (.str x t hl) _ _ _⟩
  | _, _, _, .list (a := a) (vs := its) (xs := xs) g1 g2 g3 g4, hb, hn, hl => by
    rw [PyData.shown] at hl ⊢
    unfold bigP at hb
    obtain ⟨bs, db, kk⟩ := forestK S g4 hb (fun z => hn (List.mem_cons_of_mem _ z)) (fun t m => Nat.le_trans (listText_mem_le m) hl)
    have whole : Reads hp (.ref a) (.list xs) _ := .list g1 g2 g3 g4
    have deeper : PyData.depthAll xs < (PyData.list xs).depth := by rw [PyData.depth]; omega
    have na := not_mem_of_deeper whole deeper db
    refine ⟨a :: bs, ReadAtMost.cons whole (Nat.le_of_lt deeper) db, ?_⟩
    rw [PyData.depth]
    rcases its with ⟨vals⟩
    match vals, g3, g4, kk with
    | [], g3, g4, kk =>
      have nothing : ReadsAll hp [] xs _ := g4
      cases nothing
      rw [PyData.shownAll, listText_nil]
      exact .listEmpty g1 g2 g3
    | y :: ys, g3, g4, kk => exact .list g1 g2 g3 na (by simpa using kk.length_eq) fun j z e => kk.item j z (by simpa using e)
  | _, _, _, .tuple (a := a) (xs := xs) g1 g2 g3 g4, hb, hn, hl => by
    rw [PyData.shown] at hl ⊢
    unfold bigP at hb
    obtain ⟨bs, db, kk⟩ := forestK S g4 hb hn (fun t m => Nat.le_trans (tupleText_mem_le m) hl)
    have whole : Reads hp (.ref a) (.tuple xs) _ := .tuple g1 g2 g3 g4
    have deeper : PyData.depthAll xs < (PyData.tuple xs).depth := by rw [PyData.depth]; omega
    have na := not_mem_of_deeper whole deeper db
    refine ⟨a :: bs, ReadAtMost.cons whole (Nat.le_of_lt deeper) db, ?_⟩
    rw [PyData.depth]
    exact .tuple g1 g2 g3 na kk
  | _, _, _, .dict (a := a) (es := es) (kvs := l) (as := ka) (bs := va) g1 g2 g3 g4 g5, hb, hn, hl => by
    rw [PyData.shown] at hl ⊢
    unfold bigP at hb
    obtain ⟨hb1, hb2⟩ := bigKv_split l hb
    obtain ⟨bs1, db1, kk1⟩ := forestK S g4 hb1 (fun z => hn (List.mem_append_left _ (List.mem_cons_of_mem _ z))) fun t m => by
      obtain ⟨p, m2, le⟩ := PyData.shownKv_key_le l t m
      exact Nat.le_trans (Nat.le_trans le (dictText_mem_le m2)) hl
    obtain ⟨bs2, db2, kk2⟩ := forestK S g5 hb2 (fun z => hn (List.mem_append_right _ z)) fun t m => by
      obtain ⟨p, m2, le⟩ := PyData.shownKv_val_le l t m
      exact Nat.le_trans (Nat.le_trans le (dictText_mem_le m2)) hl
    have whole : Reads hp (.ref a) (.dict l) _ := .dict g1 g2 g3 g4 g5
    have both : ReadAtMost hp (PyData.depthKv l) (bs1 ++ bs2) := ReadAtMost.append (db1.mono (PyData.depthAll_keys_le l)) (db2.mono (PyData.depthAll_vals_le l))
    have deeper : PyData.depthKv l < (PyData.dict l).depth := by rw [PyData.depth]; omega
    have na := not_mem_of_deeper whole deeper both
    have other : (a == sysModules) = false := beq_eq_false_iff_ne.mpr fun z => hn (List.mem_append_left _ (by rw [z]; exact List.mem_cons_self ..))
    refine ⟨a :: (bs1 ++ bs2), ReadAtMost.cons whole (Nat.le_of_lt deeper) both, ?_⟩
    rw [PyData.depth, PyData.shownKv_eq]
    have r1 := kk1.more_le (as' := bs1 ++ bs2) (fun _ z => List.mem_append_left _ z) (PyData.depthAll_keys_le l)
    have r2 := kk2.more_le (as' := bs1 ++ bs2) (fun _ z => List.mem_append_right _ z) (PyData.depthAll_vals_le l)
    exact .dict g1 g2 g3 other na (.of_two es.toList _ _ r1 r2)
theorem forestK (S : Stat hp) : ∀ {vs : List Value} {ds : List PyData} {as : List Addr}, ReadsAll hp vs ds as → bigPs ds = true → sysModules ∉ as → (∀ t ∈ PyData.shownAll ds, t.length ≤ sizeLine) → ∃ bs, ReadAtMost hp (PyData.depthAll ds) bs ∧ ReprAllK prog w bs hp (PyData.depthAll ds) vs (PyData.shownAll ds)
  | _, _, _, .nil, _, _, _ => ⟨[], (fun _ z => nomatch z), by rw [PyData.shownAll]; exact .nil⟩
  | _, _, _, .cons (d := x) (ds := xs) g1 g2, hb, hn, hl => by
    unfold bigPs at hb
    rw [Bool.and_eq_true] at hb
    rw [PyData.shownAll] at hl ⊢
    rw [PyData.depthAll]
    obtain ⟨bs1, db1, kk1⟩ := treeK S g1 hb.1 (fun z => hn (List.mem_append_left _ z)) (hl _ (List.mem_cons_self ..))
    obtain ⟨bs2, db2, kk2⟩ := forestK S g2 hb.2 (fun z => hn (List.mem_append_right _ z)) fun t m => hl t (List.mem_cons_of_mem _ m)
    have m1 := Nat.le_max_left x.depth (PyData.depthAll xs)
    have m2 := Nat.le_max_right x.depth (PyData.depthAll xs)
    exact ⟨bs1 ++ bs2, (ReadAtMost.mono db1 m1).append (db2.mono m2), .cons ((kk1.more fun _ z => List.mem_append_left _ z).level_le m1) (kk2.more_le (fun _ z => List.mem_append_right _ z) m2)⟩
end
theorem repr_tree {A : Around} {E : Value → Shared → Prop} {s : Shared} {Q : Value → Shared → Prop} {a : Addr} {d : PyData} {as : List Addr} (S : Stat s.heap) (r : Reads s.heap (.ref a) d as) (hb : bigP d = true) (hn : sysModules ∉ as) (hg : A.guards = some []) (hu : A.units + (d.depth + 2) < cLine)
    (hl : d.shown.length ≤ sizeLine) (hQ : ∀ h' u tk, (∀ b o, s.heap.get? b = some o → h'.get? b = some o) → Q (.str d.shown u) { s with heap := h', toks := tk }) : wpAny (model prog w) A (call (.builtin "repr") [.ref a]) Q E s := by
  have under : A.in1.units + d.depth < cLine := by show A.units + 1 + d.depth < cLine; omega
  have g1 : A.in1.guards = some [] := hg
  cases r with
  | list g1' g2 g3 g4 =>
    rename_i o its n xs bs0
    unfold bigP at hb
    rw [PyData.shown] at hl hQ
    rw [PyData.depth] at under
    obtain ⟨bs, db, kk⟩ := forestK (prog := prog) (w := w) S g4 hb (fun z => hn (List.mem_cons_of_mem _ z)) (fun t m => Nat.le_trans (listText_mem_le m) hl)
    have na := not_mem_of_deeper (.list g1' g2 g3 g4) (by rw [PyData.depth]; omega) db
    refine call_repr_slot (T := "list") (idr := "list.__repr__") (by omega) ⟨o, g1', g2⟩ F.slot_list_repr.toG ?_
    rcases its with ⟨vals⟩
    match vals, g3, g4, kk with
    | [], g3, g4, kk =>
      have nothing : ReadsAll s.heap [] xs _ := g4
      cases nothing
      rw [PyData.shownAll, listText_nil] at hQ
      exact call_list_repr_empty ⟨o, g1', g2⟩ g1' g3 ⟨_, _, rfl, hQ s.heap _ _ fun _ _ e => e⟩
    | y :: ys, g3, g4, kk => exact call_list_reprK g1' g2 g3 na (by simpa using kk.length_eq) (fun j z e => kk.item j z (by simpa using e)) g1 (fun b _ => Clear.nil b) under (fun _ _ e => e) (fun h' u tk hk => ⟨_, _, rfl, hQ h' u tk hk⟩) hl
  | tuple g1' g2 g3 g4 =>
    rename_i o its n xs
    unfold bigP at hb
    rw [PyData.shown] at hl hQ
    rw [PyData.depth] at under
    obtain ⟨bs, db, kk⟩ := forestK (prog := prog) (w := w) S g4 hb hn (fun t m => Nat.le_trans (tupleText_mem_le m) hl)
    have na := not_mem_of_deeper (.tuple g1' g2 g3 g4) (by rw [PyData.depth]; omega) db
    refine call_repr_slot (T := "tuple") (idr := "tuple.__repr__") (by omega) ⟨o, g1', g2⟩ F.slot_tuple_repr ?_
    exact call_tuple_reprK g1' g2 g3 na kk g1 (fun b _ => Clear.nil b) under (fun _ _ e => e) (fun h' u tk hk => ⟨_, _, rfl, hQ h' u tk hk⟩) hl
  | dict g1' g2 g3 g4 g5 =>
    rename_i o es n l ka va
    unfold bigP at hb
    rw [PyData.shown] at hl hQ
    rw [PyData.depth] at under
    obtain ⟨hb1, hb2⟩ := bigKv_split l hb
    obtain ⟨bs1, db1, kk1⟩ := forestK (prog := prog) (w := w) S g4 hb1 (fun z => hn (List.mem_append_left _ (List.mem_cons_of_mem _ z))) fun t m => by
      obtain ⟨p, m2, le⟩ := PyData.shownKv_key_le l t m
      exact Nat.le_trans (Nat.le_trans le (dictText_mem_le m2)) hl
    obtain ⟨bs2, db2, kk2⟩ := forestK (prog := prog) (w := w) S g5 hb2 (fun z => hn (List.mem_append_right _ z)) fun t m => by
      obtain ⟨p, m2, le⟩ := PyData.shownKv_val_le l t m
      exact Nat.le_trans (Nat.le_trans le (dictText_mem_le m2)) hl
    have both : ReadAtMost s.heap (PyData.depthKv l) (bs1 ++ bs2) := ReadAtMost.append (db1.mono (PyData.depthAll_keys_le l)) (db2.mono (PyData.depthAll_vals_le l))
    have na := not_mem_of_deeper (.dict g1' g2 g3 g4 g5) (by rw [PyData.depth]; omega) both
    have other : (a == sysModules) = false := beq_eq_false_iff_ne.mpr fun z => hn (List.mem_append_left _ (by rw [z]; exact List.mem_cons_self ..))
    have r1 := kk1.more_le (as' := bs1 ++ bs2) (fun _ z => List.mem_append_left _ z) (PyData.depthAll_keys_le l)
    have r2 := kk2.more_le (as' := bs1 ++ bs2) (fun _ z => List.mem_append_right _ z) (PyData.depthAll_vals_le l)
    rw [PyData.shownKv_eq] at hl hQ
    refine call_repr_slot (T := "dict") (idr := "dict.__repr__") (by omega) ⟨o, g1', g2⟩ F.slot_dict_repr ?_
    exact call_dict_reprK g1' g2 g3 other na (.of_two es.toList _ _ r1 r2) g1 (fun b _ => Clear.nil b) under (fun _ _ e => e) (fun h' u tk hk => ⟨_, _, rfl, hQ h' u tk hk⟩) hl
end
/-! ### data with dicts -/
def keyPy : Key → PyData
  | .inl i => .int i
  | .inr x => .str x
mutual
def toPr : D → Option PyData
  | .non => some .none
  | .bl b => some (.bool b)
  | .int i => some (.int i)
  | .str s => some (.str s)
  | .tup xs => (toPrL xs).map .tuple
  | .lst xs => (toPrL xs).map .list
  | .ref _ => none
  | .dct ks xs => (toPrL xs).map fun ps => .dict ((ks.map keyPy).zip ps)
  | .frz _ => none
  | .clo _ _ _ => none
  | .exn _ _ _ _ => none
  | .fn _ => none
def toPrL : List D → Option (List PyData)
  | [] => some []
  | d :: ds => match toPr d, toPrL ds with
    | some p, some ps => some (p :: ps)
    | _, _ => none
end
theorem toPrL_len : ∀ {ds : List D} {ps : List PyData}, toPrL ds = some ps → ps.length = ds.length
  | [], ps, h => by unfold toPrL at h; cases h; rfl
  | d :: ds, ps, h => by
    unfold toPrL at h
    split at h
    · rename_i p qs e1 e2
      cases h
      rw [List.length_cons, List.length_cons, toPrL_len e2]
    · cases h
theorem map_fst_zip' {α β : Type} (l : List α) (r : List β) (h : l.length = r.length) : (l.zip r).map Prod.fst = l := List.map_fst_zip (by omega)
theorem map_snd_zip' {α β : Type} (l : List α) (r : List β) (h : l.length = r.length) : (l.zip r).map Prod.snd = r := List.map_snd_zip (by omega)
section
variable {X : Cx} {pins : List (Addr × Obj)} {σ : L2.St} {H : Hp} {s : Shared} {m : Ms}
theorem not_mods (S : Stat s.heap) {a : Addr} {o : Obj} {its : Array Value} {n : Nat} (h : s.heap.get? a = some o) (hd : o.data = .seq its n) : sysModules ≠ a := fun e => by
  obtain ⟨o2, es, n2, f1, f2⟩ := S.mods
  rw [← e] at h
  rw [h] at f1; cases f1
  rw [hd] at f2; cases f2
/-- the pairs of a dict, as they are read -/
theorem keys_read {P : Program} {w : World} {h : Heap} : ∀ {es : List DictEntry} {kvs : List (Key × Value)}, Pairs (mixKind P w) es kvs → ReadsAll h (es.map (·.key)) (kvs.map fun p => keyPy p.1) []
  | _, _, .nil => .nil
  | _, _, .cons (e := e) (kv := kv) h1 h2 h3 => by
    rcases keyIs_shape (show keyIs kv.1 e.key = true from h1) with ⟨i, t, e1, e2⟩ | ⟨x, t, e1, e2⟩
    · have r : Reads h e.key (keyPy kv.1) [] := by rw [e1, e2]; exact .int i t
      exact ReadsAll.cons (as := []) (bs := []) r (keys_read h3)
    · have r : Reads h e.key (keyPy kv.1) [] := by rw [e1, e2]; exact .str x t
      exact ReadsAll.cons (as := []) (bs := []) r (keys_read h3)
theorem vals_pairs {P : Program} {w : World} : ∀ {es : List DictEntry} {kvs : List (Key × Value)}, Pairs (mixKind P w) es kvs → es.map (·.val) = kvs.map (·.2)
  | _, _, .nil => rfl
  | _, _, .cons h1 h2 h3 => by rw [List.map_cons, List.map_cons, h2, vals_pairs h3]
theorem kv_parts : ∀ {ks : List Key} {vs : List V} {rs : List (Key × Value)}, ks.length = vs.length → KV (ks.zip vs) rs → rs.map (·.1) = ks ∧ Vals vs (rs.map (·.2))
  | [], [], _, _, h => by cases h; exact ⟨rfl, .nil⟩
  | k :: ks, v :: vs, _, l, h => by
    have h' : KV ((k, v) :: ks.zip vs) _ := h
    cases h' with
    | cons h1 h2 =>
      obtain ⟨a, b⟩ := kv_parts (by simpa using l) h2
      refine ⟨?_, .cons h1.2 b⟩
      rw [List.map_cons, a, ← h1.1]
mutual
theorem readsD (I : Inv X pins σ H s) (S : Stat s.heap) : ∀ (d : D) (v : V) (u : Value) (p : PyData), toPr d = some p → Rep X.K H m d v → RelV v u → ∃ as, Reads s.heap u p as ∧ sysModules ∉ as
  | .non, v, u, p, e, h, r => by unfold toPr at e; unfold Rep at h; cases e; subst h; cases r; exact ⟨_, .none, List.not_mem_nil⟩
  | .bl b, v, u, p, e, h, r => by unfold toPr at e; unfold Rep at h; cases e; subst h; cases r; exact ⟨_, .bool b, List.not_mem_nil⟩
  | .int i, v, u, p, e, h, r => by unfold toPr at e; unfold Rep at h; cases e; subst h; obtain ⟨t, rfl⟩ := r; exact ⟨_, .int i t, List.not_mem_nil⟩
  | .str x, v, u, p, e, h, r => by unfold toPr at e; unfold Rep at h; cases e; subst h; obtain ⟨t, rfl⟩ := r; exact ⟨_, .str x t, List.not_mem_nil⟩
  | .lst xs, v, u, p, e, h, r => by
    unfold toPr at e; unfold Rep at h
    obtain ⟨a, vs, rfl, _, q, rl⟩ := h
    cases r
    cases e2 : toPrL xs with
    | none => rw [e2] at e; cases e
    | some ps =>
      rw [e2] at e; cases e
      obtain ⟨its, rv, ⟨o, n, ho, hc, _, hd⟩, _⟩ := I.list (SqL.of (K := X.K) q)
      obtain ⟨as, hr, hn⟩ := readsDL I S xs vs its ps e2 rl rv
      refine ⟨_, .list ho hc hd hr, fun z => ?_⟩
      rcases List.mem_cons.mp z with z | z
      · exact not_mods S ho hd z
      · exact hn z
  | .tup xs, v, u, p, e, h, r => by
    unfold toPr at e; unfold Rep at h
    obtain ⟨a, vs, rfl, q, rl⟩ := h
    cases r
    cases e2 : toPrL xs with
    | none => rw [e2] at e; cases e
    | some ps =>
      rw [e2] at e; cases e
      obtain ⟨its, rv, ⟨o, ho, hc, n, hd⟩, _⟩ := I.tuple q
      obtain ⟨as, hr, hn⟩ := readsDL I S xs vs its ps e2 rl rv
      exact ⟨_, .tuple ho hc hd hr, hn⟩
  | .dct ks xs, v, u, p, e, h, r => by
    unfold toPr at e; unfold Rep at h
    obtain ⟨a, vs, rfl, _, q, l, rl⟩ := h
    cases r
    cases e2 : toPrL xs with
    | none => rw [e2] at e; cases e
    | some ps =>
      rw [e2] at e; cases e
      obtain ⟨_, hs, rs, kv, o, es, ep, ho, ex, hd, _, pr, _⟩ := dk_of I.hok q
      obtain ⟨k1, k2⟩ := kv_parts l kv
      obtain ⟨as, hr, hn⟩ := readsDL I S xs vs _ ps e2 rl k2
      have lp : (ks.map keyPy).length = ps.length := by rw [List.length_map, l, toPrL_len e2, rl.length]
      have rk : ReadsAll s.heap (es.toList.map (·.key)) (((ks.map keyPy).zip ps).map (·.1)) [] := by
        rw [map_fst_zip' _ _ lp, ← k1, List.map_map]
        exact keys_read pr
      have rvv : ReadsAll s.heap (es.toList.map (·.val)) (((ks.map keyPy).zip ps).map (·.2)) as := by
        rw [map_snd_zip' _ _ lp, vals_pairs pr]
        exact hr
      refine ⟨_, .dict ho ex.1 hd rk rvv, fun z => ?_⟩
      rcases List.mem_append.mp z with z | z
      · rcases List.mem_cons.mp z with z | z
        · exact (beq_eq_false_iff_ne.mp hs) z.symm
        · exact nomatch z
      · exact hn z
  | .ref _, v, u, p, e, h, r => by unfold toPr at e; cases e
  | .frz _, v, u, p, e, h, r => by unfold toPr at e; cases e
  | .clo _ _ _, v, u, p, e, h, r => by unfold toPr at e; cases e
  | .exn _ _ _ _, v, u, p, e, h, r => by unfold toPr at e; cases e
  | .fn _, v, u, p, e, h, r => by unfold toPr at e; cases e
theorem readsDL (I : Inv X pins σ H s) (S : Stat s.heap) : ∀ (ds : List D) (vs : List V) (us : List Value) (ps : List PyData), toPrL ds = some ps → RepL X.K H m ds vs → Vals vs us → ∃ as, ReadsAll s.heap us ps as ∧ sysModules ∉ as
  | [], vs, us, ps, e, h, r => by unfold toPrL at e; unfold RepL at h; cases e; subst h; cases r; exact ⟨_, .nil, List.not_mem_nil⟩
  | d :: ds, vs, us, ps, e, h, r => by
    unfold toPrL at e; unfold RepL at h
    obtain ⟨v, rr, rfl, h1, h2⟩ := h
    cases r with
    | cons r1 r2 =>
      cases e1 : toPr d with
      | none => rw [e1] at e; cases e
      | some p =>
        cases e2 : toPrL ds with
        | none => rw [e1, e2] at e; cases e
        | some ps' =>
          rw [e1, e2] at e; cases e
          obtain ⟨as, q1, n1⟩ := readsD I S d v _ p e1 h1 r1
          obtain ⟨bs, q2, n2⟩ := readsDL I S ds rr _ ps' e2 h2 r2
          exact ⟨_, .cons q1 q2, fun z => (List.mem_append.mp z).elim n1 n2⟩
end
/-- a value, or the list that a slot alone holds -/
theorem readsW (I : Inv X pins σ H s) (S : Stat s.heap) : ∀ (d : D) (v : V) (u : Value) (p : PyData), toPr d = some p → RepW X.K H m d v → RelV v u → ∃ as, Reads s.heap u p as ∧ sysModules ∉ as
  | .lst xs, v, u, p, e, h, r => by
    unfold toPr at e; unfold RepW at h
    obtain ⟨a, vs, rfl, q, rl⟩ := h
    cases r
    cases e2 : toPrL xs with
    | none => rw [e2] at e; cases e
    | some ps =>
      rw [e2] at e; cases e
      obtain ⟨its, rv, ⟨o, n, ho, hc, _, hd⟩, _⟩ := I.list (SqL.of (K := X.K) q)
      obtain ⟨as, hr, hn⟩ := readsDL (m := m) I S xs vs its ps e2 rl rv
      refine ⟨_, .list ho hc hd hr, fun z => ?_⟩
      rcases List.mem_cons.mp z with z | z
      · exact not_mods S ho hd z
      · exact hn z
  | .non, v, u, p, e, h, r => readsD (m := m) I S _ v u p e h r
  | .bl _, v, u, p, e, h, r => readsD (m := m) I S _ v u p e h r
  | .int _, v, u, p, e, h, r => readsD (m := m) I S _ v u p e h r
  | .str _, v, u, p, e, h, r => readsD (m := m) I S _ v u p e h r
  | .tup _, v, u, p, e, h, r => readsD (m := m) I S _ v u p e h r
  | .dct _ _, v, u, p, e, h, r => readsD (m := m) I S _ v u p e h r
  | .ref _, v, u, p, e, h, r => by unfold toPr at e; cases e
  | .frz _, v, u, p, e, h, r => by unfold toPr at e; cases e
  | .clo _ _ _, v, u, p, e, h, r => by unfold toPr at e; cases e
  | .exn _ _ _ _, v, u, p, e, h, r => by unfold toPr at e; cases e
  | .fn _, v, u, p, e, h, r => by unfold toPr at e; cases e
end
end Mn

namespace Mn
open PySem PySem.Spec PyProof.Rows L2
/-! ### sum, tuple, list -/
section
variable {X : Cx}
theorem repl_ints_of {K : PySem.W.Frag} {H : Hp} {m : Ms} : ∀ {ns : List Int} {vs : List V}, RepL K H m (ns.map D.int) vs → vs = ns.map V.int
  | [], vs, h => by unfold List.map RepL at h; exact h
  | n :: ns, vs, h => by
    unfold List.map RepL at h
    obtain ⟨v, r, rfl, h1, h2⟩ := h
    unfold Rep at h1
    rw [h1, repl_ints_of h2]
    rfl
def sumD : On := fun ds hc P => match ds with
  | [.lst xs] => ∃ ns : List Int, xs = ns.map D.int ∧ P (.int ns.sum)
  | _ => False
theorem bf_sum (hc : X.calm = true) : CallR X (.builtin "sum") (LVn X.K sumD) := by
  intro pins s σ H xs us Q I r h
  obtain ⟨hc', m, ds, P, w, h1, f, fin⟩ := h
  unfold sumD at f
  split at f
  · obtain ⟨x, rfl, k1⟩ := wl1 h1
    unfold RepW at k1
    obtain ⟨p, vs, rfl, q, rl⟩ := k1
    obtain ⟨ns, rfl, pd⟩ := f
    rw [repl_ints_of rl] at q
    exact cr_sum hc pins s σ H _ us Q I r ⟨p, ns, rfl, .of q, fin _ pd _ _ (.refl H) rep_int⟩
  · exact f.elim
def tupleFD : On := fun ds hc P => match ds with
  | [.lst xs] => P (.tup xs)
  | [.frz xs] => P (.tup xs)
  | [.tup xs] => P (.tup xs)
  | [.ref a] => oth (hc a) fun xs => P (.tup xs)
  | _ => False
theorem bt_tuple : CallR X (.type "tuple") (LVn X.K tupleFD) := by
  intro pins s σ H xs us Q I r h
  obtain ⟨hc', m, ds, P, w, h1, f, fin⟩ := h
  unfold tupleFD at f
  split at f
  · obtain ⟨x, rfl, k1⟩ := wl1 h1
    unfold RepW at k1
    obtain ⟨p, vs, rfl, q, rl⟩ := k1
    exact call_tuple_of pins s σ H _ us Q I r ⟨p, vs, rfl, .inl ⟨.of q, fun l n => fin _ f _ _ (same_upd n) (rep_tup w.mu n rl)⟩⟩
  · obtain ⟨x, rfl, k1⟩ := wl1 h1
    unfold RepW Rep at k1
    obtain ⟨p, vs, rfl, q, rl⟩ := k1
    exact call_tuple_of pins s σ H _ us Q I r ⟨p, vs, rfl, .inl ⟨q.sq, fun l n => fin _ f _ _ (same_upd n) (rep_tup w.mu n rl)⟩⟩
  · obtain ⟨x, rfl, k1⟩ := wl1 h1
    unfold RepW Rep at k1
    obtain ⟨p, vs, rfl, q, rl⟩ := k1
    refine call_tuple_of pins s σ H _ us Q I r ⟨p, vs, rfl, .inr ⟨q, fin _ f _ _ (.refl H) ?_⟩⟩
    unfold Rep
    exact ⟨p, vs, rfl, q, rl⟩
  · obtain ⟨x, rfl, k1⟩ := wl1 h1
    unfold RepW Rep at k1
    subst k1
    obtain ⟨zs, e, f⟩ := oth_of f
    obtain ⟨vs, q, rl⟩ := w.heap _ _ e
    exact call_tuple_of pins s σ H _ us Q I r ⟨_, vs, rfl, .inl ⟨.of q, fun l n => fin _ f _ _ (same_upd n) (rep_tup w.mu n rl)⟩⟩
  · exact f.elim
def listFD : On := fun ds hc P => match ds with
  | [.lst xs] => P (.lst xs)
  | [.frz xs] => P (.lst xs)
  | [.tup xs] => P (.lst xs)
  | _ => False
theorem bt_list : CallR X (.type "list") (LVn X.K listFD) := by
  intro pins s σ H xs us Q I r h
  obtain ⟨hc', m, ds, P, w, h1, f, fin⟩ := h
  unfold listFD at f
  split at f
  · obtain ⟨x, rfl, k1⟩ := wl1 h1
    unfold RepW at k1
    obtain ⟨p, vs, rfl, q, rl⟩ := k1
    exact call_list_of pins s σ H _ us Q I r ⟨p, vs, rfl, .inl (.of q), fun l n => fin _ f _ _ (same_upd n) (rep_lst w.mu n rl)⟩
  · obtain ⟨x, rfl, k1⟩ := wl1 h1
    unfold RepW Rep at k1
    obtain ⟨p, vs, rfl, q, rl⟩ := k1
    exact call_list_of pins s σ H _ us Q I r ⟨p, vs, rfl, .inl q.sq, fun l n => fin _ f _ _ (same_upd n) (rep_lst w.mu n rl)⟩
  · obtain ⟨x, rfl, k1⟩ := wl1 h1
    unfold RepW Rep at k1
    obtain ⟨p, vs, rfl, q, rl⟩ := k1
    exact call_list_of pins s σ H _ us Q I r ⟨p, vs, rfl, .inr q, fun l n => fin _ f _ _ (same_upd n) (rep_lst w.mu n rl)⟩
  · exact f.elim
/-! ### xs[::-1] -/
def revD : O1
  | .lst xs, _, P => P (.lst xs.reverse)
  | _, _, _ => False
end
theorem RepL.rev {K : PySem.W.Frag} {H : Hp} {m : Ms} : ∀ {ds : List D} {vs : List V}, RepL K H m ds vs → RepL K H m ds.reverse vs.reverse
  | [], vs, h => by unfold RepL at h; subst h; exact RepL.nil
  | d :: ds, vs, h => by
    unfold RepL at h
    obtain ⟨v, r, rfl, h1, h2⟩ := h
    rw [List.reverse_cons, List.reverse_cons]
    exact (RepL.rev h2).append (RepL.cons h1 RepL.nil)
section
variable {X : Cx} {W : WX} {e : Expr} {ce : CEx} {pos : Pos}
theorem ce_rev {k : Nat} {p1 p2 p3 : Pos} (h : CB X W e ce) : CE X W (.Subscript e (.Slice none none (some (.UnaryOp .USub (.Constant (.int 1) k p1) p2)) p3) pos) (cUn revD ce) :=
  ⟨pe_wk (pe_revL h.p) fun σ H Q ⟨en, sc, hc, m, E, P, r, k, xo, fin⟩ =>
    ⟨en, sc, hc, m, E, _, r, k, xo, fun d hc1 p v H1 m1 x1 q => by
      have q := q.w (r.call x1)
      cases d <;> try exact p.elim
      rename_i xs
      unfold RepW at q
      obtain ⟨a, vs, rfl, q1, rl⟩ := q
      refine ⟨a, vs, rfl, .of q1, fun l n => ?_⟩
      exact fin _ hc1 p _ _ _ (x1.trans (.same x1.toWd (same_upd n))) (rep_lst x1.mu n rl.rev)⟩⟩
/-! ### x, y = [], e -/
theorem Rs.tmp {K : PySem.W.Frag} {en : En} {σ : L2.St} {H : Hp} {sc : List Sl} {hc : CH} {m : Ms} (r : Rs K en σ H sc hc m) {p : Addr} {ds : List D} {vs : List V} (n : H p = none) (q : RepL K H m ds vs) :
    Rs K en σ (upd H p (.lst vs)) sc hc (fun a => m a ∨ a = p) ∧ Stp H m (upd H p (.lst vs)) (fun a => m a ∨ a = p) ∧ en.H p = none ∧ hc p = none ∧ ∀ (j : Nat) (es : List D), sc[j]? = some (Sl.own es) → σ[j]? ≠ some (some (V.ref p)) := by
  have st : Stp H m (upd H p (.lst vs)) (fun a => m a ∨ a = p) := ⟨fun a o e _ _ => same_upd n a o e, fun a z => z.elim .inl fun e => .inr (by rw [e]; exact n), fun a o e => by rw [same_upd n a o e]; simp⟩
  have e0 : en.H p = none := by
    cases e : en.H p with
    | none => rfl
    | some o => exact absurd n (r.live p o e)
  have hn := hc_none r.toWd n
  refine ⟨⟨⟨⟨tabs_put r.tab (.inl n), fun a z => ?_, fun a ds' e => .inl (r.hm a ds' e), fun a ds' e => ?_⟩, r.emut, r.ehm, fun a o e t h => same_upd n a o (r.keep a o e t h), fun a z => ?_, fun a z h => .inl (r.hold a z h), r.hgrow, fun a o e => ?_⟩, fun j d e => ?_, fun j ds' e => ?_, r.sep, r.len⟩, st, e0, hn, fun j es e z => ?_⟩
  · rcases z with z | rfl
    · obtain ⟨ws, e⟩ := r.mu a z
      exact ⟨ws, same_upd n _ _ e⟩
    · exact ⟨vs, upd_same⟩
  · obtain ⟨ws, e1, q1⟩ := r.heap a ds' e
    exact ⟨ws, same_upd n _ _ e1, RepL.mono r.mu st _ _ q1⟩
  · rcases z with z | rfl
    · exact r.grow a z
    · exact .inr e0
  · cases e2 : H a with
    | none => exact absurd e2 (r.live a o e)
    | some u => rw [same_upd n a u e2]; simp
  · obtain ⟨v, e1, q1⟩ := r.slot j d e
    exact ⟨v, e1, Rep.mono r.mu st _ _ q1⟩
  · obtain ⟨a, ws, e1, e2, e3, e4, e5, q1⟩ := r.own j ds' e
    exact ⟨a, ws, e1, .inl e2, e3, e4, same_upd n _ _ e5, RepL.mono r.mu st _ _ q1⟩
  · obtain ⟨a, ws, e1, e2, e3, e4, e5, q1⟩ := r.own j es e
    rw [z] at e1; cases e1
    rw [n] at e5; cases e5
theorem Rs.owned {K : PySem.W.Frag} {en : En} {σ : L2.St} {H : Hp} {sc : List Sl} {hc : CH} {m : Ms} (r : Rs K en σ H sc hc m) (i : Nat) {p : Addr} (mp : m p) (e0 : en.H p = none) (hn : hc p = none) (hp : H p = some (.lst []))
    (no : ∀ (j : Nat) (es : List D), sc[j]? = some (Sl.own es) → σ[j]? ≠ some (some (V.ref p))) : Rs K en (σ.set i (some (.ref p))) H (sc.set i (.own [])) hc m := by
  have hs : ∀ {j : Nat} {x : Sl}, (sc.set i (.own []))[j]? = some x → (i = j ∧ i < sc.length ∧ x = .own []) ∨ (i ≠ j ∧ sc[j]? = some x) := fun {j x} e => by
    by_cases h : i = j
    · subst h
      by_cases l : i < sc.length
      · rw [List.getElem?_set_self l] at e; cases e; exact .inl ⟨rfl, l, rfl⟩
      · rw [List.getElem?_eq_none (by rw [List.length_set]; omega)] at e; cases e
    · rw [List.getElem?_set_ne h] at e; exact .inr ⟨h, e⟩
  have hv : ∀ {j : Nat}, i < sc.length → (σ.set i (some (V.ref p)))[i]? = some (some (V.ref p)) := fun {j} l => List.getElem?_set_self (by rw [← r.len]; exact l)
  refine ⟨r.toEx, fun j d e => ?_, fun j ds e => ?_, fun j l ds es a e1 e2 e3 e4 => ?_, by rw [List.length_set, List.length_set]; exact r.len⟩
  · rcases hs e with ⟨_, _, z⟩ | ⟨h, e⟩
    · cases z
    · rw [List.getElem?_set_ne h]; exact r.slot j d e
  · rcases hs e with ⟨rfl, l, z⟩ | ⟨h, e⟩
    · cases z
      exact ⟨p, [], hv (j := 0) l, mp, e0, hn, hp, RepL.nil⟩
    · rw [List.getElem?_set_ne h]; exact r.own j ds e
  · rcases hs e1 with ⟨rfl, l1, _⟩ | ⟨h1, e1⟩ <;> rcases hs e2 with ⟨rfl, l2, _⟩ | ⟨h2, e2⟩
    · rfl
    · rw [hv (j := 0) l1] at e3; cases e3
      rw [List.getElem?_set_ne h2] at e4
      exact (no _ _ e2 e4).elim
    · rw [hv (j := 0) l2] at e4; cases e4
      rw [List.getElem?_set_ne h1] at e3
      exact (no _ _ e1 e3).elim
    · rw [List.getElem?_set_ne h1] at e3
      rw [List.getElem?_set_ne h2] at e4
      exact r.sep _ _ _ _ _ e1 e2 e3 e4
def cParO (i j : Nat) (ca : CEx) : CSx := fun C sc hc => ca C.xp sc hc fun d hc1 => C.nx ((sc.set i (.own [])).set j (.val d)) hc1
theorem cs_parO {i j : Nat} {x y : Str} {b : Expr} {px py pt p3 : Pos} {kt k2 : Nat} {p2 : Pos} (hc : X.calm = true) (hN : X.N.Nodup) (hb : CE X W b ce) (hw : swappedStores [.Tuple [.Name x px, .Name y py] kt pt] (.Tuple [.List [] p3, b] k2 p2) X.env = pure (some [x, y]) := by rfl) (hi : X.N[i]? = some x := by rfl) (hj : X.N[j]? = some y := by rfl) (hij : i ≠ j := by decide)
    (hx : X.env.scope.names.lookup x = some .local := by rfl) (hy : X.env.scope.names.lookup y = some .local := by rfl)
    (hs : swapsWithSole [.Tuple [.Name x px, .Name y py] kt pt] (.Tuple [.List [] p3, b] k2 p2) pos.line X.env = pure false := by rfl)
    (h1 : starEach [.List [] p3, b] X.env = (false, eval (.List [] p3) X.env) :: starEach [b] X.env := by rfl) (h2 : starEach [b] X.env = (false, eval b X.env) :: starEach [] X.env := by rfl) : CS X W (.Assign [.Tuple [.Name x px, .Name y py] kt pt] (.Tuple [.List [] p3, b] k2 p2) pos) (cParO i j ce) :=
  ⟨ps_wk (ps_par hc hN hi hj hij hx hy (pa_cons (pe_lst pa_nil) (pa_cons hb.p pa_nil h2) h1) hw hs) fun D σ H ⟨en, sc, hc, m, C, r, k, f⟩ => by
    refine ⟨by show (0 : Nat) ≤ sizeLine; exact Nat.zero_le _, fun p n => ?_⟩
    obtain ⟨r1, s1, e0, hn, no⟩ := r.tmp (ds := []) n RepL.nil
    refine ⟨en, sc, hc, _, C.xp, _, r1, k, f.xp, fun d hc2 pd v H2 m2 x2 q2 => ?_⟩
    have r2 := r1.call x2
    have hc2n : hc2 p = none := by
      cases e : hc2 p with
      | none => rfl
      | some ds =>
        rcases x2.hgrow p ds e with z | z
        · exact (z hn).elim
        · rw [show (⟨upd H p (.lst []), hc, fun a => m a ∨ a = p⟩ : En).H p = some (.lst []) from upd_same] at z; cases z
    have r3 := r2.owned i (x2.hold p (.inr rfl) hn) e0 hc2n (x2.keep p _ upd_same trivial hn) no
    exact ⟨.ref p, v, rfl, f.nx _ hc2 pd _ H2 m2 (r3.put j q2) (s1.trans x2.stp)⟩⟩
end
/-! ### repr -/
def Sh (n c : Nat) (d : D) : Prop := ∃ p, toPr d = some p ∧ bigP p = true ∧ p.depth ≤ n ∧ p.shown.length ≤ c
def shw (d : D) : Str := match toPr d with
  | some p => p.shown
  | none => ""
def ShOk (d : D) : Prop := ∃ n c, n ≤ 64 ∧ c ≤ sizeLine ∧ Sh n c d
def reprD : On := fun ds _ P => match ds with
  | [d] => ShOk d ∧ P (.str (shw d))
  | _ => False
theorem bf_repr {X : Cx} {k : Nat} (g : RG k X.A) (st : statK X.K = true) : CallR X (.builtin "repr") (LVn X.K reprD) := by
  intro pins s σ H xs us Q I r h
  obtain ⟨hc', m, ds, P, w, h1, f, fin⟩ := h
  unfold reprD at f
  split at f
  · rename_i d
    obtain ⟨v, rfl, k1⟩ := wl1 h1
    obtain ⟨⟨n, c, hn, hcz, p, ep, sp, dp, lp⟩, q⟩ := f
    unfold shw at q
    rw [ep] at q
    obtain ⟨u, rfl, ru⟩ := vals1 r
    have S : Stat s.heap := stat_of I.kIn I.nolimit st
    obtain ⟨as, rd, nm⟩ := readsW I S d v u p ep k1 ru
    have hz : p.shown.length ≤ sizeLine := by omega
    have done : ∀ (h' : Heap) (t tk : Nat), (∀ b o, s.heap.get? b = some o → h'.get? b = some o) → EP X pins σ Q (.str p.shown t) { s with heap := h', toks := tk } := fun h' t tk hk =>
      ⟨.str p.shown, H, I.kept (t' := tk) hk, ⟨t, rfl⟩, fin _ q _ _ (.refl H) rep_str⟩
    have un := g.r.un
    cases rd with
    | none => exact PySem.P.repr_of_none (done s.heap _ _ fun _ _ e => e)
    | bool b => exact PySem.P.repr_of_bool (done s.heap _ _ fun _ _ e => e)
    | int i t => exact call_repr_slot (T := "int") (idr := "int.__repr__") (by omega) (typeIs_int s i t) F.slot_int_repr.toG (call_intrepr S sp ⟨_, _, rfl, done s.heap _ _ fun _ _ e => e⟩)
    | str x t => exact PySem.P.repr_of_str (done s.heap _ _ fun _ _ e => e) hz
    | list a1 a2 a3 a4 => exact repr_tree S (.list a1 a2 a3 a4) sp nm g.g (by omega) hz (fun h' t tk hk => done h' t tk hk)
    | tuple a1 a2 a3 a4 => exact repr_tree S (.tuple a1 a2 a3 a4) sp nm g.g (by omega) hz (fun h' t tk hk => done h' t tk hk)
    | dict a1 a2 a3 a4 a5 => exact repr_tree S (.dict a1 a2 a3 a4 a5) sp nm g.g (by omega) hz (fun h' t tk hk => done h' t tk hk)
  · exact f.elim
theorem Sh.up {n c n2 c2 : Nat} {d : D} (h : Sh n c d) (hn : n ≤ n2) (hc : c ≤ c2) : Sh n2 c2 d := by
  obtain ⟨p, a, b, f, g⟩ := h
  exact ⟨p, a, b, by omega, by omega⟩
theorem Sh.ok {n c : Nat} {d : D} (h : Sh n c d) (hn : n ≤ 64 := by decide) (hc : c ≤ sizeLine := by decide) : ShOk d := ⟨n, c, hn, hc, h⟩
theorem sh_non : Sh 0 4 .non := ⟨.none, by unfold toPr; rfl, rfl, Nat.le_refl _, by decide⟩
theorem sh_bl {b : Bool} : Sh 0 5 (.bl b) := ⟨.bool b, by unfold toPr; rfl, rfl, Nat.le_refl _, by cases b <;> decide⟩
theorem sh_str {s : Str} {c : Nat} (h : (reprText s).length ≤ c) : Sh 0 c (.str s) := ⟨.str s, by unfold toPr; rfl, rfl, Nat.le_refl _, by rw [PyData.shown]; exact h⟩
theorem textFrom_up : ∀ (ts : List Str) (k : Nat) (acc : Str), (textFrom k acc ts).length ≤ acc.length + piled ts
  | [], k, acc => by show acc.length ≤ _; omega
  | t :: r, k, acc => by
    have h := textFrom_up r (k + 1) (acc ++ (if k > 0 then ", " else "" : String) ++ t)
    rw [piled_cons]
    rw [strLen_append, strLen_append] at h
    have e : (((if k > 0 then ", " else "" : String) : Str)).length ≤ 2 := by split <;> decide
    show (textFrom (k + 1) (acc ++ (if k > 0 then ", " else "" : String) ++ t) r).length ≤ _
    omega
theorem piled_up {c : Nat} : ∀ ts : List Str, (∀ t ∈ ts, t.length ≤ c) → piled ts ≤ ts.length * (c + 2)
  | [], _ => by rw [piled_nil]; exact Nat.zero_le _
  | t :: r, h => by
    have h1 := piled_up r fun x hx => h x (List.mem_cons_of_mem _ hx)
    have h2 := h t (List.mem_cons_self ..)
    rw [piled_cons, List.length_cons, Nat.succ_mul]
    omega
theorem listText_len_le (ts : List Str) (c : Nat) (h : ∀ t ∈ ts, t.length ≤ c) : (listText ts).length ≤ ts.length * (c + 2) + 2 ∧ (tupleText ts).length ≤ ts.length * (c + 2) + 3 := by
  have hp := piled_up ts h
  constructor
  · unfold listText
    have h1 := textFrom_up ts 0 "["
    rw [strLen_append]
    have e1 : (("[" : String) : Str).length = 1 := rfl
    have e2 : (("]" : String) : Str).length = 1 := rfl
    rw [e1] at h1
    rw [e2]
    omega
  · unfold tupleText
    rw [strLen_append, strLen_append]
    have e1 : ((("(" : String) : Str)).length = 1 := rfl
    have e3 : (((if ts.length == 1 then ",)" else ")" : String) : Str)).length ≤ 2 := by split <;> decide
    rw [e1]
    by_cases h0 : ts = []
    · subst h0
      have e4 : (Str.join ", " []).length = 0 := rfl
      rw [e4]; omega
    · have := join_length_add ts h0
      omega
theorem sh_big {i : Int} (h : i.natAbs < 2 ^ 12900) : Sh 0 12901 (.int i) := by
  have t : IntTxt i = true := decide_eq_true h
  refine ⟨.int i, by unfold toPr; rfl, by unfold bigP; exact t, Nat.le_refl _, ?_⟩
  rw [PyData.shown, PySem.ofString_length]
  exact int_text_length_le (k := 12900) (by decide) (log_of t)
theorem sh_i {i : Int} (h : i.natAbs < 2 ^ 1920) : Sh 0 1921 (.int i) := by
  have hl : i.natAbs.log2 < 1920 := by
    by_cases z : i.natAbs = 0
    · rw [z]; decide
    · exact (Nat.log2_lt z).mpr h
  refine ⟨.int i, by unfold toPr; rfl, by unfold bigP; exact decide_eq_true (Nat.lt_of_lt_of_le h (Nat.pow_le_pow_right (by decide) (by decide))), Nat.le_refl _, ?_⟩
  rw [PyData.shown]
  exact PyProof.Rows.int_text_len_1921 hl
/-- an integer of at most so many digits -/
theorem sh_dig {i : Int} {k : Nat} (h0 : 0 < k) (h : i.natAbs < 10 ^ k) (hk : i.natAbs < 2 ^ 12900) : Sh 0 (k + 1) (.int i) := by
  refine ⟨.int i, by unfold toPr; rfl, by unfold bigP; exact decide_eq_true hk, Nat.le_refl _, ?_⟩
  rw [PyData.shown, PySem.ofString_length]
  exact int_text_length_le10 h0 h
theorem shL {n c : Nat} : ∀ ds : List D, (∀ d ∈ ds, Sh n c d) → ∃ ps, toPrL ds = some ps ∧ bigPs ps = true ∧ PyData.depthAll ps ≤ n ∧ (PyData.shownAll ps).length = ds.length ∧ ∀ t ∈ PyData.shownAll ps, t.length ≤ c
  | [], _ => ⟨[], by unfold toPrL; rfl, rfl, Nat.zero_le _, rfl, fun t h => by simp [PyData.shownAll] at h⟩
  | d :: ds, h => by
    obtain ⟨p, a, b, f, g⟩ := h d (List.mem_cons_self ..)
    obtain ⟨ps, a2, b2, f2, g2, l2⟩ := shL ds fun x hx => h x (List.mem_cons_of_mem _ hx)
    refine ⟨p :: ps, by unfold toPrL; rw [a, a2], by unfold bigPs; rw [b, b2]; rfl, by simp [PyData.depthAll]; omega, by simp [PyData.shownAll, g2], fun t ht => ?_⟩
    simp only [PyData.shownAll, List.mem_cons] at ht
    rcases ht with rfl | ht
    · exact g
    · exact l2 t ht
theorem sh_lst {n c : Nat} {ds : List D} (h : ∀ d ∈ ds, Sh n c d) : Sh (n + 1) (ds.length * (c + 2) + 2) (.lst ds) := by
  obtain ⟨ps, a, b, f, g, l⟩ := shL ds h
  refine ⟨.list ps, by unfold toPr; rw [a]; rfl, by unfold bigP; exact b, by simp [PyData.depth]; omega, ?_⟩
  have := (listText_len_le (PyData.shownAll ps) c l).1
  rw [g] at this
  simpa [PyData.shown] using this
theorem sh_tup {n c : Nat} {ds : List D} (h : ∀ d ∈ ds, Sh n c d) : Sh (n + 1) (ds.length * (c + 2) + 3) (.tup ds) := by
  obtain ⟨ps, a, b, f, g, l⟩ := shL ds h
  refine ⟨.tuple ps, by unfold toPr; rw [a]; rfl, by unfold bigP; exact b, by simp [PyData.depth]; omega, ?_⟩
  have := (listText_len_le (PyData.shownAll ps) c l).2
  rw [g] at this
  simpa [PyData.shown] using this
section
variable {hc : CH} {P : D → Prop} {i j : Nat} {a : Addr} {xs ys : List D} {d : D} {ca : CEx} {C : CEnds} {sc : List Sl} {l u : Int}
theorem o_rev : revD (.lst xs) hc P = P (.lst xs.reverse) := rfl
theorem o_tupF : tupleFD [.lst xs] hc P = P (.tup xs) := rfl
theorem o_tupF2 : tupleFD [.tup xs] hc P = P (.tup xs) := rfl
theorem o_lstF : listFD [.lst xs] hc P = P (.lst xs) := rfl
theorem o_lstF2 : listFD [.tup xs] hc P = P (.lst xs) := rfl
theorem o_repr : reprD [d] hc P = (ShOk d ∧ P (.str (shw d))) := rfl
theorem e_ParO : cParO i j ca C sc hc = ca C.xp sc hc fun d hc1 => C.nx ((sc.set i (.own [])).set j (.val d)) hc1 := rfl
theorem o_isN1 : isND .non .non hc P = P (.bl true) := rfl
theorem o_isN2 : isND (.tup xs) .non hc P = P (.bl false) := rfl
theorem o_isN3 : isND (.int l) .non hc P = P (.bl false) := rfl
theorem o_isN4 : isND (.lst xs) .non hc P = P (.bl false) := rfl
theorem o_notN1 : notND .non .non hc P = P (.bl false) := rfl
theorem o_notN2 : notND (.tup xs) .non hc P = P (.bl true) := rfl
theorem o_notN3 : notND (.int l) .non hc P = P (.bl true) := rfl
theorem o_notN4 : notND (.lst xs) .non hc P = P (.bl true) := rfl
theorem o_sum {ns : List Int} (h : P (.int ns.sum)) : sumD [.lst (ns.map D.int)] hc P := ⟨ns, rfl, h⟩
end
/-! ### comprehensions, what they run over a letter -/
theorem lc_step {ci : CIx} {i : Nat} {ce : CEx} {own : List Nat} {E : XP} {sc : List Sl} {hc : CH} {P : D → CH → Prop}
    (h : ∀ R : List D → CH → Prop, (∀ (ds : List D) (hc1 : CH) (f : D → D), ds.length ≤ sizeLine → (∀ d ∈ ds, ∀ Nx : D → CH → Prop, Nx (f d) hc1 → ce (fun _ _ _ => False) ((wipeC sc own).set i (.val d)) hc1 Nx) → P (.lst (ds.map f)) hc1 → R ds hc1) → ci E sc hc R) :
    cLc ci (gN i) cYes ce own E sc hc P := h (fun ds hc1 => ds.length ≤ sizeLine ∧ lcW (gN i) cYes ce own sc ds [] hc1 fun out hc2 => P (.lst out) hc2) fun _ _ f z st q => ⟨z, lc_map f st q⟩
theorem lc_inv {ci : CIx} {g : CGx} {t : CTx} {ce : CEx} {own : List Nat} {E : XP} {sc : List Sl} {hc : CH} {P : D → CH → Prop}
    (h : ∀ R : List D → CH → Prop, (∀ (ds : List D) (hc1 : CH) (I : Nat → List D → CH → Prop), ds.length ≤ sizeLine → I 0 [] hc1 →
      (∀ (j : Nat) (d : D) acc hc (Nx : List D → CH → Prop), ds[j]? = some d → I j acc hc → (∀ acc' hc', I (j + 1) acc' hc' → Nx acc' hc') → g (fun _ _ _ => False) d (wipeC sc own) hc fun sc1 hc1 => t (fun _ _ _ => False) sc1 hc1 fun b hc2 =>
        if b = true then ce (fun _ _ _ => False) sc1 hc2 fun y hc3 => Nx (acc ++ [y]) hc3 else Nx acc hc2) → (∀ acc hc, I ds.length acc hc → P (.lst acc) hc) → R ds hc1) → ci E sc hc R) :
    cLc ci g t ce own E sc hc P := h (fun ds hc1 => ds.length ≤ sizeLine ∧ lcW g t ce own sc ds [] hc1 fun out hc2 => P (.lst out) hc2) fun ds hc1 I z b st q =>
      ⟨z, lcW_inv I ds 0 b (fun j d acc hc Nx e k nx => st j d acc hc Nx e (by rw [Nat.zero_add] at k; exact k) fun a h z => nx a h (by rw [Nat.zero_add]; exact z)) fun acc hc k => q acc hc (by rw [Nat.zero_add] at k; exact k)⟩
def onI (g : Int → Int) : D → D
  | .int x => .int (g x)
  | d => d
theorem rng_map {g : Int → Int} {lo hi : Int} : (rngD lo hi).map (onI g) = ((List.range (hi - lo).toNat).map fun k => g (lo + (k : Nat))).map D.int := by
  unfold rngD
  rw [List.map_map, List.map_map]
  rfl
theorem rng_mem {lo hi : Int} {d : D} (h : d ∈ rngD lo hi) : ∃ x : Int, d = .int x ∧ lo ≤ x ∧ x < hi := by
  unfold rngD at h
  obtain ⟨k, hk, rfl⟩ := List.mem_map.mp h
  rw [List.mem_range] at hk
  exact ⟨_, rfl, by omega, by omega⟩
theorem e_Star {ca : CEx} {c : CAx} {E : XP} {sc : List Sl} {hc : CH} {PA : List D → CH → Prop} : cStar ca c E sc hc PA = ca E sc hc fun d hc1 => match d with
  | .tup xs => c E sc hc1 fun ds hc2 => PA (xs ++ ds) hc2
  | .lst xs => c E sc hc1 fun ds hc2 => PA (xs ++ ds) hc2
  | _ => False := rfl
theorem wipe_0 {sc : List Sl} : wipeC sc [] = sc := rfl
theorem wipe_s {sc : List Sl} {v : Nat} {vs : List Nat} : wipeC sc (v :: vs) = (wipeC sc vs).set v .un := rfl
section
variable {g : CGx} {gs : CGsx} {E : XP} {d : D} {xs : List D} {n : Nat} {sc : List Sl} {hc : CH} {P : List Sl → CH → Prop}
theorem e_gNil : gNil' E [] sc hc P = P sc hc := rfl
theorem e_gCons : gCons' g gs E (d :: xs) sc hc P = g E d sc hc fun sc1 hc1 => gs E xs sc1 hc1 P := rfl
theorem e_gUnT : gUn n gs E (.tup xs) sc hc P = (xs.length = n ∧ gs E xs sc hc P) := rfl
theorem e_gUnL : gUn n gs E (.lst xs) sc hc P = (xs.length = n ∧ gs E xs sc hc P) := rfl
theorem e_gTup : gTup' n gs E (.tup xs) sc hc P = (xs.length = n ∧ gs E xs sc hc P) := rfl
end
/-! ### what is never reached -/
def cDead : CSx := fun _ _ _ => False
theorem cs_dead {X : Cx} {W : WX} {st : Stmt} : CS X W st cDead := ⟨⟨fun pins s σ H D I ⟨_, _, _, _, _, _, k, _⟩ => k.elim⟩⟩
def cDeadE : CEx := fun _ _ _ _ => False
theorem ce_dead {X : Cx} {W : WX} {e : Expr} : CE X W e cDeadE := ⟨⟨fun pins s σ H Q I ⟨_, _, _, _, _, _, _, k, _⟩ => k.elim⟩⟩
end Mn

namespace Mn
open PySem PySem.Spec PyProof.Rows L2
/-! ### bits, divmod -/
section
variable {X : Cx} {W : WX} {e : Expr} {ce : CEx} {pos apos : Pos}
def bitsD : O1
  | .int i, _, P => P (.int (Builtin.Int.intBits i : Nat))
  | _, _, _ => False
theorem ce_bits (h : CB X W e ce) (hb : attributeBase e "bit_length" X.env (eval e X.env) = eval e X.env := by rfl) (hl : (apos.endLine == pos.line) = true := by rfl) : CE X W (.Call (.Attribute e "bit_length" apos) [] [] pos) (cUn bitsD ce) :=
  ⟨pe_wk (pe_bits h.p hb hl) fun σ H Q ⟨en, sc, hc, m, E, P, r, k, xo, fin⟩ =>
    ⟨en, sc, hc, m, E, _, r, k, xo, fun d hc1 p v H1 m1 x1 q => by
      have q := q.w (r.call x1)
      cases d <;> try exact p.elim
      unfold RepW Rep at q
      exact ⟨_, q, fin _ hc1 p _ _ _ x1 rep_int⟩⟩⟩
def divmodD : On := fun ds _ P => match ds with
  | [.int i, .int j] => DivOk i j ∧ P (.tup [.int (i / j), .int (i % j)])
  | _ => False
theorem bf_divmod : CallR X (.builtin "divmod") (LVn X.K divmodD) := by
  intro pins s σ H xs us Q I r h
  obtain ⟨hc', m, ds, P, w, h1, f, fin⟩ := h
  unfold divmodD at f
  split at f
  · obtain ⟨x, y, rfl, k1, k2⟩ := wl2 h1
    unfold RepW Rep at k1 k2
    subst k1; subst k2
    exact call_divmodW pins s σ H _ us Q I r ⟨_, _, rfl, f.1, fun l n => fin _ f.2 _ _ (same_upd n) (rep_tup w.mu n (RepL.cons rep_int (RepL.cons rep_int RepL.nil)))⟩
  · exact f.elim
/-! ### in -/
def inG (neg : Bool) (x : D) (xs : List D) (P : D → Prop) : Prop := ∃ p ps, toPy x = some p ∧ toPyL xs = some ps ∧ p.canLay0 = true ∧ p.depth ≤ 64 ∧ PyData.canLayAll0 ps = true ∧ P (.bl (if neg then !ps.any fun z => PyData.eqv z p else ps.any fun z => PyData.eqv z p))
def inD : O2 := fun x y _ P => match y with
  | .lst ys => inG false x ys P
  | .tup ys => inG false x ys P
  | _ => False
def ninD : O2 := fun x y _ P => match y with
  | .lst ys => inG true x ys P
  | .tup ys => inG true x ys P
  | _ => False
theorem op_inDD {k : Nat} (g : RG k X.A) : OpR X (compareOp .In) (LV2 X.K inD) := by
  intro pins s σ H x y v u Q I rx ry h
  obtain ⟨hc, m, dx, dy, P, w, h1, h2, f, fin⟩ := h
  have un := g.r.un
  cases dy <;> try exact f.elim
  all_goals
    obtain ⟨p, ps, e1, e2, c1, l1, c2, q⟩ := f
    obtain ⟨as, r1⟩ := Dp.reads I p x v (dpw_of _ _ _ e1 h1) rx
  · obtain ⟨bs, r2⟩ := Dp.reads I (.tuple ps) y u (dpw_of _ _ _ (by unfold toPy; rw [e2]; rfl) h2) ry
    exact SeqAt.in_tuple_reads r2 r1 c2 c1 (Nat.lt_of_le_of_lt (Nat.add_le_add_left (Nat.min_le_right _ _) _) (by omega)) ⟨.bl _, H, I, rfl, eq_flat fin q⟩
  · obtain ⟨bs, r2⟩ := Dp.reads I (.list ps) y u (dpw_of _ _ _ (by unfold toPy; rw [e2]; rfl) h2) ry
    exact SeqAt.in_list_reads r2 r1 c2 c1 (Nat.lt_of_le_of_lt (Nat.add_le_add_left (Nat.min_le_right _ _) _) (by omega)) ⟨.bl _, H, I, rfl, eq_flat fin q⟩
theorem op_ninDD {k : Nat} (g : RG k X.A) : OpR X (compareOp .NotIn) (LV2 X.K ninD) := by
  intro pins s σ H x y v u Q I rx ry h
  obtain ⟨hc, m, dx, dy, P, w, h1, h2, f, fin⟩ := h
  have un := g.r.un
  cases dy <;> try exact f.elim
  all_goals
    obtain ⟨p, ps, e1, e2, c1, l1, c2, q⟩ := f
    obtain ⟨as, r1⟩ := Dp.reads I p x v (dpw_of _ _ _ e1 h1) rx
  · obtain ⟨bs, r2⟩ := Dp.reads I (.tuple ps) y u (dpw_of _ _ _ (by unfold toPy; rw [e2]; rfl) h2) ry
    exact SeqAt.notIn_tuple_reads r2 r1 c2 c1 (Nat.lt_of_le_of_lt (Nat.add_le_add_left (Nat.min_le_right _ _) _) (by omega)) ⟨.bl _, H, I, rfl, eq_flat fin q⟩
  · obtain ⟨bs, r2⟩ := Dp.reads I (.list ps) y u (dpw_of _ _ _ (by unfold toPy; rw [e2]; rfl) h2) ry
    exact SeqAt.notIn_list_reads r2 r1 c2 c1 (Nat.lt_of_le_of_lt (Nat.add_le_add_left (Nat.min_le_right _ _) _) (by omega)) ⟨.bl _, H, I, rfl, eq_flat fin q⟩
end
theorem any_ok {n m : Nat} {x : D} {p : PyData} (ex : toPy x = some p) (hx : okD n x = true) : ∀ {xs : List D} {ps : List PyData}, xs.all (okD m) = true → toPyL xs = some ps → ((ps.any fun z => PyData.eqv z p) = true ↔ x ∈ xs)
  | [], ps, _, e => by unfold toPyL at e; cases e; simp
  | y :: ys, ps, h, e => by
    unfold toPyL at e
    rw [List.all_cons, Bool.and_eq_true] at h
    split at e
    · next q qs f1 f2 =>
      cases e
      obtain ⟨q', e1, _, _, k⟩ := okPy m y h.1
      rw [f1] at e1; cases e1
      rw [List.any_cons, Bool.or_eq_true, any_ok ex hx h.2 f2, k x n p hx ex, List.mem_cons]
      exact or_congr ⟨Eq.symm, Eq.symm⟩ Iff.rfl
    · cases e
theorem inG_ok {neg : Bool} {n m : Nat} {x : D} {xs : List D} {P : D → Prop} (hx : okD n x = true) (hy : xs.all (okD m) = true) (h1 : x ∈ xs → P (.bl (!neg))) (h2 : x ∉ xs → P (.bl neg)) (hn : n ≤ 64 := by decide) : inG neg x xs P := by
  obtain ⟨p, e1, c1, l1, k1⟩ := okPy n x hx
  obtain ⟨ps, e2, c2, _, _⟩ := okPyL (okPy m) xs hy
  refine ⟨p, ps, e1, e2, c1, by omega, c2, ?_⟩
  have k := any_ok e1 hx hy e2
  cases z : ps.any fun z => PyData.eqv z p with
  | true => have := h1 (k.mp z); cases neg <;> exact this
  | false => have := h2 fun w => by rw [k.mpr w] at z; cases z
             cases neg <;> exact this
section
variable {hc : CH} {P : D → Prop} {i j : Int} {x : D} {xs : List D}
theorem o_bits : bitsD (.int i) hc P = P (.int (Builtin.Int.intBits i : Nat)) := rfl
theorem o_divmod : divmodD [.int i, .int j] hc P = (DivOk i j ∧ P (.tup [.int (i / j), .int (i % j)])) := rfl
theorem o_inL : inD x (.lst xs) hc P = inG false x xs P := rfl
theorem o_inT : inD x (.tup xs) hc P = inG false x xs P := rfl
theorem o_ninL : ninD x (.lst xs) hc P = inG true x xs P := rfl
theorem o_ninT : ninD x (.tup xs) hc P = inG true x xs P := rfl
end
end Mn

namespace Mn
open PySem PySem.Spec PyProof.Rows L2
/-! ### a new list that only a slot will hold: x = a + b, x = [.. for ..], x = list(e) -/
def LF (X : Cx) (W : WX) (c : CEx) : TE := fun σ H Q => ∃ en sc hc m E P, Rs X.K en σ H sc hc m ∧ c E sc hc P ∧ XOk X W en E ∧
  ∀ d hc', P d hc' → ∃ ds, d = .lst ds ∧ ∀ p vs H' m', Ex X.K ⟨H, hc, m⟩ H' hc' m' → m' p → H p = none → hc' p = none → H' p = some (.lst vs) → RepL X.K H' m' ds vs → Q (.ref p) H'
structure CF (X : Cx) (W : WX) (e : Expr) (c : CEx) : Prop where
  p : PE X e (LF X W c)
theorem Rs.adopt {K : PySem.W.Frag} {en : En} {σ : L2.St} {H : Hp} {sc : List Sl} {hc : CH} {m : Ms} (r : Rs K en σ H sc hc m) (i : Nat) {p : Addr} {ds : List D} {vs : List V} (mp : m p) (e0 : en.H p = none) (hn : hc p = none) (hp : H p = some (.lst vs)) (q : RepL K H m ds vs)
    (no : ∀ (j : Nat) (es : List D), sc[j]? = some (Sl.own es) → σ[j]? ≠ some (some (V.ref p))) : Rs K en (σ.set i (some (.ref p))) H (sc.set i (.own ds)) hc m := by
  have hs : ∀ {j : Nat} {x : Sl}, (sc.set i (.own ds))[j]? = some x → (i = j ∧ i < sc.length ∧ x = .own ds) ∨ (i ≠ j ∧ sc[j]? = some x) := fun {j x} e => by
    by_cases h : i = j
    · subst h
      by_cases l : i < sc.length
      · rw [List.getElem?_set_self l] at e; cases e; exact .inl ⟨rfl, l, rfl⟩
      · rw [List.getElem?_eq_none (by rw [List.length_set]; omega)] at e; cases e
    · rw [List.getElem?_set_ne h] at e; exact .inr ⟨h, e⟩
  have hv : ∀ {j : Nat}, i < sc.length → (σ.set i (some (V.ref p)))[i]? = some (some (V.ref p)) := fun {j} l => List.getElem?_set_self (by rw [← r.len]; exact l)
  refine ⟨r.toEx, fun j d e => ?_, fun j ds' e => ?_, fun j l ds es a e1 e2 e3 e4 => ?_, by rw [List.length_set, List.length_set]; exact r.len⟩
  · rcases hs e with ⟨_, _, z⟩ | ⟨h, e⟩
    · cases z
    · rw [List.getElem?_set_ne h]; exact r.slot j d e
  · rcases hs e with ⟨rfl, l, z⟩ | ⟨h, e⟩
    · cases z
      exact ⟨p, vs, hv (j := 0) l, mp, e0, hn, hp, q⟩
    · rw [List.getElem?_set_ne h]; exact r.own j ds' e
  · rcases hs e1 with ⟨rfl, l1, _⟩ | ⟨h1, e1⟩ <;> rcases hs e2 with ⟨rfl, l2, _⟩ | ⟨h2, e2⟩
    · rfl
    · rw [hv (j := 0) l1] at e3; cases e3
      rw [List.getElem?_set_ne h2] at e4
      exact (no _ _ e2 e4).elim
    · rw [hv (j := 0) l2] at e4; cases e4
      rw [List.getElem?_set_ne h1] at e3
      exact (no _ _ e1 e3).elim
    · rw [List.getElem?_set_ne h1] at e3
      rw [List.getElem?_set_ne h2] at e4
      exact r.sep _ _ _ _ _ e1 e2 e3 e4
theorem Rs.newown {K : PySem.W.Frag} {en : En} {σ : L2.St} {H H' : Hp} {sc : List Sl} {hc hc' : CH} {m m' : Ms} (r : Rs K en σ H sc hc m) (i : Nat) {p : Addr} {ds : List D} {vs : List V} (x : Ex K ⟨H, hc, m⟩ H' hc' m') (mp : m' p) (hp : H p = none) (hn : hc' p = none) (e : H' p = some (.lst vs)) (q : RepL K H' m' ds vs) :
    Rs K en (σ.set i (some (.ref p))) H' (sc.set i (.own ds)) hc' m' := by
  refine (r.call x).adopt i mp ?_ hn e q fun j es e1 z => ?_
  · cases e2 : en.H p with
    | none => rfl
    | some o => exact absurd hp (r.live p o e2)
  · obtain ⟨a, ws, e2, _, _, _, e3, _⟩ := r.own j es e1
    rw [z] at e2; cases e2
    rw [hp] at e3; cases e3
def cSetF (i : Nat) (ce : CEx) : CSx := fun C sc hc => ce C.xp sc hc fun d hc1 => match d with | .lst ds => C.nx (sc.set i (.own ds)) hc1 | _ => False
section
variable {X : Cx} {W : WX} {e a b : Expr} {ce ca cb : CEx} {pos : Pos}
theorem cs_setF {i : Nat} {x : Str} {p2 : Pos} (hN : X.N.Nodup) (he : CF X W e ce) (hi : X.N[i]? = some x := by rfl) (hx : Loc X.env.scope x := by first | exact Or.inl rfl | exact Or.inr rfl) (hs : swapsWith e (some (.Name x p2)) pos.line X.env = pure false := by rfl) (hf : X.fn x = true ∨ X.env.scope.names.lookup x = some .local := by first | exact .inl rfl | exact .inr rfl) :
    CS X W (.Assign [.Name x p2] e pos) (cSetF i ce) := ⟨ps_wk (ps_set hN hi hx he.p hs hf) fun D σ H ⟨en, sc, hc, m, C, r, k, f⟩ =>
  ⟨en, sc, hc, m, C.xp, _, r, k, f.xp, fun d hc1 p => by
    cases d <;> try exact p.elim
    exact ⟨_, rfl, fun q vs H1 m1 x1 mp hp hn e q => f.nx _ hc1 p _ H1 m1 (r.newown i x1 mp hp hn e q) x1.stp⟩⟩⟩
/-- two lists, one behind the other -/
def catD : O2
  | .lst xs, .lst ys, _, P => xs.length + ys.length ≤ sizeLine ∧ P (.lst (xs ++ ys))
  | .ref a, .lst ys, hc, P => oth (hc a) fun xs => xs.length + ys.length ≤ sizeLine ∧ P (.lst (xs ++ ys))
  | .lst xs, .ref a, hc, P => oth (hc a) fun ys => xs.length + ys.length ≤ sizeLine ∧ P (.lst (xs ++ ys))
  | _, _, _, _ => False
def LV2F (K : PySem.W.Frag) (f : O2) : R2 := fun x y H Q => ∃ hc m dx dy P, Wd K H hc m ∧ RepW K H m dx x ∧ RepW K H m dy y ∧ f dx dy hc P ∧ ∀ d, P d → ∃ ds, d = .lst ds ∧ ∀ vs p, H p = none → RepL K H m ds vs → Q (.ref p) (upd H p (.lst vs))
theorem op_catF : OpR X (binaryOp .Add) (LV2F X.K catD) := by
  intro pins s σ H x y v u Q I rx ry h
  obtain ⟨hc, m, dx, dy, P, w, h1, h2, f, fin⟩ := h
  cases dx <;> cases dy <;> try exact f.elim
  · rename_i xs ys
    unfold RepW at h1 h2
    obtain ⟨p, vs, rfl, q1, r1⟩ := h1
    obtain ⟨p2, vs2, rfl, q2, r2⟩ := h2
    obtain ⟨ds, e, fin⟩ := fin _ f.2
    cases e
    exact op_cat pins s σ H _ _ v u Q I rx ry ⟨p, p2, vs, vs2, rfl, rfl, q1, q2, by rw [← r1.length, ← r2.length]; exact f.1, fun q n => fin _ _ n (r1.append r2)⟩
  · unfold RepW at h1 h2
    unfold Rep at h2
    obtain ⟨p, vs, rfl, q1, r1⟩ := h1
    subst h2
    obtain ⟨zs, e, lz, f⟩ := oth_of f
    obtain ⟨ws, q2, r2⟩ := w.heap _ _ e
    obtain ⟨ds, e, fin⟩ := fin _ f
    cases e
    exact op_cat pins s σ H _ _ v u Q I rx ry ⟨p, _, vs, ws, rfl, rfl, q1, q2, by rw [← r1.length, ← r2.length]; exact lz, fun q n => fin _ _ n (r1.append r2)⟩
  · unfold RepW at h1 h2
    unfold Rep at h1
    obtain ⟨p, vs, rfl, q1, r1⟩ := h2
    subst h1
    obtain ⟨zs, e, lz, f⟩ := oth_of f
    obtain ⟨ws, q2, r2⟩ := w.heap _ _ e
    obtain ⟨ds, e, fin⟩ := fin _ f
    cases e
    exact op_cat pins s σ H _ _ v u Q I rx ry ⟨_, p, ws, vs, rfl, rfl, q2, q1, by rw [← r1.length, ← r2.length]; exact lz, fun q n => fin _ _ n (r2.append r1)⟩
theorem own_new {K : PySem.W.Frag} {H : Hp} {hc : CH} {m : Ms} {p : Addr} {ds : List D} {vs : List V} (w : Wd K H hc m) (n : H p = none) (q : RepL K H m ds vs) :
    Ex K ⟨H, hc, m⟩ (upd H p (.lst vs)) hc (fun a => m a ∨ a = p) ∧ hc p = none ∧ RepL K (upd H p (.lst vs)) (fun a => m a ∨ a = p) ds vs := by
  have st : Stp H m (upd H p (.lst vs)) (fun a => m a ∨ a = p) := ⟨fun a o e _ _ => same_upd n a o e, fun a z => z.elim .inl fun e => .inr (by rw [e]; exact n), fun a o e => by rw [same_upd n a o e]; simp⟩
  refine ⟨⟨⟨tabs_put w.tab (.inl n), fun a z => ?_, fun a es e => .inl (w.hm a es e), fun a es e => ?_⟩, w.mu, w.hm, fun a o e _ _ => same_upd n a o e, st.grow, fun a z _ => .inl z, fun a es e => .inl (by show hc a ≠ none; rw [e]; simp), fun a o e => by rw [same_upd n a o e]; simp⟩, hc_none w n, RepL.mono w.mu st _ _ q⟩
  · rcases z with z | rfl
    · obtain ⟨ws, e⟩ := w.mu a z
      exact ⟨ws, same_upd n _ _ e⟩
    · exact ⟨vs, upd_same⟩
  · obtain ⟨ws, e1, q1⟩ := w.heap a es e
    exact ⟨ws, same_upd n _ _ e1, RepL.mono w.mu st _ _ q1⟩
theorem opF_lift {f : O2} {σ : L2.St} {H : Hp} {Q : VK} (h : LF X W (cOp f ca cb) σ H Q) : LB X W ca σ H fun x H1 => LB X W cb σ H1 fun y H2 => LV2F X.K f x y H2 Q := by
  obtain ⟨en, sc, hc, m, E, P, r, c, xo, fin⟩ := h
  refine ⟨en, sc, hc, m, E, _, r, c, xo, fun dx hc1 hp v H1 m1 x1 q1 => ⟨en, sc, hc1, m1, E, _, r.call x1, hp, xo, fun dy hc2 hp2 w H2 m2 x2 q2 => ⟨hc2, m2, dx, dy, _, x2.toWd, (q1.mono (r.call x1) x2.stp).w ((r.call x1).call x2), q2.w ((r.call x1).call x2), hp2, fun d pd => ?_⟩⟩⟩
  obtain ⟨ds, e, g⟩ := fin d hc2 pd
  refine ⟨ds, e, fun vs p n q => ?_⟩
  obtain ⟨y1, y2, y3⟩ := own_new x2.toWd n q
  have x12 := x1.trans x2
  exact g p vs _ _ (x12.trans y1) (.inr rfl) (by
    cases e3 : H p with
    | none => rfl
    | some o => exact absurd n (x12.live p o e3)) y2 upd_same y3
theorem cf_cat (ha : CB X W a ca) (hb : CB X W b cb) : CF X W (.BinOp a .Add b pos) (cOp catD ca cb) :=
  ⟨pe_wk (pe_op op_catF ha.p hb.p) fun σ H Q h => opF_lift h⟩
end
section
variable {X : Cx} {W : WX} {tg iter elt : Expr} {ifs : List Expr} {pos : Pos} {vs : List Nat} {ce : CEx} {ct : CTx}
theorem lc_liftF {ci : CIx} {g : CGx} {σ : L2.St} {H : Hp} {Q : VK} (h : LF X W (cLc ci g ct ce vs) σ H Q) : tLc (LI X W ci) (LGk X W0 vs g) (LT X W0 ct) (LE X W0 ce) vs σ H Q := by
  obtain ⟨en, sc, hc, m, E, P, r, k, xo, fin⟩ := h
  refine lc_gen r k xo fun acc hc' k' L H' m' ws xa mL hL' HL ra hH => ?_
  obtain ⟨ds, e, g⟩ := fin _ hc' k'
  cases e
  exact g L ws H' m' xa mL hH hL' HL ra
theorem cf_lc {ci : CIx} {g : CGx} {scope : Scope} {own : List (Str × Nat)} (hc : X.calm = true) (hN : X.N.Nodup) (hi : CI X W tg iter ci) (ok : BlkOk X.N X.env.scope scope own)
    (hg : ∀ (s : Shared) (H : Hp) (C : Addr) (cl : List (Str × Addr)) (fp : List Addr), CGk (X.blk s H scope (compEnvC scope cl C X.env) fp) W0 (own.map (·.2)) tg g)
    (ht : ∀ (s : Shared) (H : Hp) (C : Addr) (cl : List (Str × Addr)) (fp : List Addr), CTs (X.blk s H scope (compEnvC scope cl C X.env) fp) W0 ifs ct)
    (he : ∀ (s : Shared) (H : Hp) (C : Addr) (cl : List (Str × Addr)) (fp : List Addr), CE (X.blk s H scope (compEnvC scope cl C X.env) fp) W0 elt ce) (hs : ∀ x, foldedSetIterable iter X.env x = pure x := by intro _; rfl) :
    CF X W (.ListComp elt [⟨tg, iter, ifs, 0⟩] scope pos) (cLc ci g ct ce (own.map (·.2))) :=
  ⟨pe_wk (pe_lc (g := LGk X W0 (List.map (fun p : Str × Nat => p.2) own) g) (tt := LT X W0 ct) (te := LE X W0 ce) hc hN hi.p ok (fun s H C cl fp => (hg s H C cl fp).p) (fun s H C cl fp => (ht s H C cl fp).p) (fun s H C cl fp => (he s H C cl fp).p) hs) fun σ H Q h => lc_liftF h⟩
theorem cs_lcF {i : Nat} {y : Str} {py : Pos} {sp2 : Pos} {ci : CIx} {g : CGx} {scope : Scope} {own : List (Str × Nat)} (hc : X.calm = true) (hN : X.N.Nodup) (hi : CI X W tg iter ci) (ok : BlkOk X.N X.env.scope scope own)
    (hg : ∀ (s : Shared) (H : Hp) (C : Addr) (cl : List (Str × Addr)) (fp : List Addr), CGk (X.blk s H scope (compEnvC scope cl C X.env) fp) W0 (own.map (·.2)) tg g)
    (ht : ∀ (s : Shared) (H : Hp) (C : Addr) (cl : List (Str × Addr)) (fp : List Addr), CTs (X.blk s H scope (compEnvC scope cl C X.env) fp) W0 ifs ct)
    (he : ∀ (s : Shared) (H : Hp) (C : Addr) (cl : List (Str × Addr)) (fp : List Addr), CE (X.blk s H scope (compEnvC scope cl C X.env) fp) W0 elt ce) (hy : X.N[i]? = some y := by rfl) (hyl : X.env.scope.names.lookup y = some .local := by rfl)
    (hsw : swapsWith (.ListComp elt [⟨tg, iter, ifs, 0⟩] scope pos) (some (.Name y py)) sp2.line X.env = pure true := by exact sw_true rfl rfl rfl (by decide +kernel)) (hs : ∀ x, foldedSetIterable iter X.env x = pure x := by intro _; rfl) :
    CS X W (.Assign [.Name y py] (.ListComp elt [⟨tg, iter, ifs, 0⟩] scope pos) sp2) (cSetF i (cLc ci g ct ce (own.map (·.2)))) :=
  ⟨ps_wk (ps_setLc (i := i) (g := LGk X W0 (List.map (fun p : Str × Nat => p.2) own) g) (tt := LT X W0 ct) (te := LE X W0 ce) hc hN hy hyl hsw hi.p ok (fun s H C cl fp => (hg s H C cl fp).p) (fun s H C cl fp => (ht s H C cl fp).p) (fun s H C cl fp => (he s H C cl fp).p) hs) fun D σ H h => by
    obtain ⟨en, sc, hc', m, C, r, k, f⟩ := h
    exact lc_liftF ⟨en, sc, hc', m, C.xp, _, r, k, f.xp, fun d hc1 p => by
      cases d <;> try exact p.elim
      exact ⟨_, rfl, fun q vs H1 m1 x1 mp hp hn e q => f.nx _ hc1 p _ H1 m1 (r.newown i x1 mp hp hn e q) x1.stp⟩⟩⟩
end
theorem o_intB {b : Bool} {hc : CH} {P : D → Prop} : intFD [.bl b] hc P = P (.int (if b then 1 else 0)) := rfl
theorem o_catL {xs ys : List D} {hc : CH} {P : D → Prop} : catD (.lst xs) (.lst ys) hc P = (xs.length + ys.length ≤ sizeLine ∧ P (.lst (xs ++ ys))) := rfl
theorem e_SetF {i : Nat} {ce : CEx} {C : CEnds} {sc : List Sl} {hc : CH} : cSetF i ce C sc hc = ce C.xp sc hc fun d hc1 => match d with | .lst ds => C.nx (sc.set i (.own ds)) hc1 | _ => False := rfl
theorem at_3 {xs : List D} {P : D → Prop} {d e f g : D} : oth (atI (d :: e :: f :: g :: xs) 3) P = P g := by
  have h : atI (d :: e :: f :: g :: xs) 3 = some g := atI_nat' (j := 3) rfl rfl
  rw [h]
  exact propext ⟨fun z => let ⟨x, e, q⟩ := oth_of z; by cases e; exact q, fun z => oth_some rfl z⟩
theorem at_4 {xs : List D} {P : D → Prop} {d e f g i : D} : oth (atI (d :: e :: f :: g :: i :: xs) 4) P = P i := by
  have h : atI (d :: e :: f :: g :: i :: xs) 4 = some i := atI_nat' (j := 4) rfl rfl
  rw [h]
  exact propext ⟨fun z => let ⟨x, e, q⟩ := oth_of z; by cases e; exact q, fun z => oth_some rfl z⟩
/-! ### == of the same data, truths among them -/
def okB : Nat → D → Bool
  | _, .non => true
  | _, .bl _ => true
  | _, .int _ => true
  | _, .str s => PyData.canLay0 (.str s)
  | n + 1, .tup xs => xs.all (okB n)
  | n + 1, .lst xs => xs.all (okB n)
  | _, _ => false
def LayB (n : Nat) (d : D) : Prop := ∃ p, toPy d = some p ∧ p.canLay0 = true ∧ p.depth ≤ n
theorem layBL {n : Nat} (ih : ∀ d, okB n d = true → LayB n d) : ∀ ds : List D, ds.all (okB n) = true → ∃ ps, toPyL ds = some ps ∧ PyData.canLayAll0 ps = true ∧ PyData.depthAll ps ≤ n
  | [], _ => ⟨[], rfl, rfl, Nat.zero_le _⟩
  | d :: ds, h => by
    rw [List.all_cons, Bool.and_eq_true] at h
    obtain ⟨p, e1, c1, l1⟩ := ih d h.1
    obtain ⟨ps, e2, c2, l2⟩ := layBL ih ds h.2
    exact ⟨p :: ps, by unfold toPyL; rw [e1, e2], by simp [PyData.canLayAll0, c1, c2], by simp [PyData.depthAll]; omega⟩
theorem layB : ∀ (n : Nat) (d : D), okB n d = true → LayB n d
  | n, .non, _ => ⟨.none, by unfold toPy; rfl, rfl, by simp [PyData.depth]⟩
  | n, .bl b, _ => ⟨.bool b, by unfold toPy; rfl, rfl, by simp [PyData.depth]⟩
  | n, .int i, _ => ⟨.int i, by unfold toPy; rfl, rfl, by simp [PyData.depth]⟩
  | n, .str i, g => ⟨.str i, by unfold toPy; rfl, by cases n <;> exact g, by simp [PyData.depth]⟩
  | n + 1, .tup xs, g => by
    obtain ⟨ps, e1, c1, l1⟩ := layBL (layB n) xs g
    exact ⟨.tuple ps, by unfold toPy; rw [e1]; rfl, c1, by simp [PyData.depth]; omega⟩
  | n + 1, .lst xs, g => by
    obtain ⟨ps, e1, c1, l1⟩ := layBL (layB n) xs g
    exact ⟨.list ps, by unfold toPy; rw [e1]; rfl, c1, by simp [PyData.depth]; omega⟩
  | 0, .tup _, g => by simp [okB] at g
  | 0, .lst _, g => by simp [okB] at g
  | n, .ref _, g => by cases n <;> simp [okB] at g
  | n, .dct _ _, g => by cases n <;> simp [okB] at g
  | n, .frz _, g => by cases n <;> simp [okB] at g
  | n, .clo _ _ _, g => by cases n <;> simp [okB] at g
  | n, .exn _ _ _ _, g => by cases n <;> simp [okB] at g
  | n, .fn _, g => by cases n <;> simp [okB] at g
theorem eqGB_same {neg : Bool} {x : D} {P : D → Prop} (n : Nat) (hx : okB n x = true) (k : P (.bl (!neg))) (hn : n ≤ 64) : eqG neg x x P := by
  obtain ⟨p, e, c, l⟩ := layB n x hx
  have sh : SeqAt.shaped p = true := by
    unfold SeqAt.shaped
    rw [c, decide_eq_true (by omega)]; rfl
  refine ⟨p, p, e, e, sh, sh, ?_⟩
  rw [SeqAt.eqv_refl p c]
  cases neg <;> exact k
theorem eqB_same {x : D} {hc : CH} {P : D → Prop} (n : Nat) (hx : okB n x = true) (k : P (.bl true)) (hn : n ≤ 64 := by decide) : eqD x x hc P := by
  unfold eqD
  split
  · rw [decide_eq_true rfl]; exact k
  · rw [decide_eq_true rfl]; exact k
  · exact k
  · exact eqGB_same n hx k hn
theorem neB_same {x : D} {hc : CH} {P : D → Prop} (n : Nat) (hx : okB n x = true) (k : P (.bl false)) (hn : n ≤ 64 := by decide) : neD x x hc P := by
  unfold neD
  split
  · rw [decide_eq_true rfl]; exact k
  · rw [decide_eq_true rfl]; exact k
  · exact k
  · exact eqGB_same n hx k hn
theorem eqD_bb {a b : Bool} {hc : CH} {P : D → Prop} (k : P (.bl (a == b))) : eqD (.bl a) (.bl b) hc P := by
  refine ⟨.bool a, .bool b, rfl, rfl, rfl, rfl, ?_⟩
  have e : PyData.eqv (.bool a) (.bool b) = (a == b) := by cases a <;> cases b <;> rfl
  rw [e]; exact k
theorem neD_bb {a b : Bool} {hc : CH} {P : D → Prop} (k : P (.bl (a != b))) : neD (.bl a) (.bl b) hc P := by
  refine ⟨.bool a, .bool b, rfl, rfl, rfl, rfl, ?_⟩
  have e : PyData.eqv (.bool a) (.bool b) = (a == b) := by cases a <;> cases b <;> rfl
  rw [e]; exact k
/-! ### is of bools -/
def isBD : O2 := fun x y _ P => match x, y with | .bl a, .bl b => P (.bl (decide (a = b))) | _, _ => False
def notBD : O2 := fun x y _ P => match x, y with | .bl a, .bl b => P (.bl (!decide (a = b))) | _, _ => False
theorem op_isBD {X : Cx} : OpR X (compareOp .Is) (LV2 X.K isBD) := by
  intro pins s σ H x y v u Q I rx ry h
  obtain ⟨hc, m, dx, dy, P, w, h1, h2, f, fin⟩ := h
  cases dx <;> cases dy <;> try exact f.elim
  unfold RepW Rep at h1 h2
  subst h1; subst h2
  exact op_isBl pins s σ H _ _ v u Q I rx ry ⟨_, _, rfl, rfl, fin _ f _ _ (.refl H) rep_bl⟩
theorem op_notBD {X : Cx} : OpR X (compareOp .IsNot) (LV2 X.K notBD) := by
  intro pins s σ H x y v u Q I rx ry h
  obtain ⟨hc, m, dx, dy, P, w, h1, h2, f, fin⟩ := h
  cases dx <;> cases dy <;> try exact f.elim
  unfold RepW Rep at h1 h2
  subst h1; subst h2
  exact op_notBl pins s σ H _ _ v u Q I rx ry ⟨_, _, rfl, rfl, fin _ f _ _ (.refl H) rep_bl⟩
theorem o_isB {a b : Bool} {hc : CH} {P : D → Prop} : isBD (.bl a) (.bl b) hc P = P (.bl (decide (a = b))) := rfl
theorem o_notB {a b : Bool} {hc : CH} {P : D → Prop} : notBD (.bl a) (.bl b) hc P = P (.bl (!decide (a = b))) := rfl
/-! ### values of any kind -/
def isW : D → Bool | .int _ => true | _ => false
def NoRef : D → Prop | .ref _ => False | .clo _ _ _ => False | .exn _ _ _ _ => False | .fn _ => False | _ => True
def betw (d : D) (lo hi : Int) : Bool := match d with | .int i => decide (lo ≤ i) && decide (i ≤ hi) | _ => false
theorem betw_ok {i lo hi : Int} (h0 : lo ≤ i) (h1 : i ≤ hi) : betw (.int i) lo hi = true := by
  show (decide (lo ≤ i) && decide (i ≤ hi)) = true
  rw [decide_eq_true h0, decide_eq_true h1]; rfl
theorem isi_nr {n : String} {d : D} {hc : CH} {P : D → Prop} (h : NoRef d) (k : P (.bl (isTy n d))) : isiD n d hc P := ⟨by cases d <;> first | trivial | exact h.elim, k⟩
section
variable {hc : CH} {P : D → Prop} {n : String} {i : Int} {b : Bool} {s : Str} {xs : List D} {ks : List Key}
theorem o_isi1 : isiD n .non hc P = P (.bl (isTy n .non)) := propext ⟨fun h => h.2, fun h => ⟨trivial, h⟩⟩
theorem o_isi2 : isiD n (.bl b) hc P = P (.bl (isTy n (.bl b))) := propext ⟨fun h => h.2, fun h => ⟨trivial, h⟩⟩
theorem o_isi3 : isiD n (.int i) hc P = P (.bl (isTy n (.int i))) := propext ⟨fun h => h.2, fun h => ⟨trivial, h⟩⟩
theorem o_isi4 : isiD n (.str s) hc P = P (.bl (isTy n (.str s))) := propext ⟨fun h => h.2, fun h => ⟨trivial, h⟩⟩
theorem o_isi5 : isiD n (.tup xs) hc P = P (.bl (isTy n (.tup xs))) := propext ⟨fun h => h.2, fun h => ⟨trivial, h⟩⟩
theorem o_isi6 : isiD n (.lst xs) hc P = P (.bl (isTy n (.lst xs))) := propext ⟨fun h => h.2, fun h => ⟨trivial, h⟩⟩
theorem o_isi7 : isiD n (.dct ks xs) hc P = P (.bl (isTy n (.dct ks xs))) := propext ⟨fun h => h.2, fun h => ⟨trivial, h⟩⟩
theorem o_isi8 : isiD n (.frz xs) hc P = P (.bl (isTy n (.frz xs))) := propext ⟨fun h => h.2, fun h => ⟨trivial, h⟩⟩
theorem ty_int_N : isTy "int" .non = false := by show tyB "NoneType" "int" = _; decide
theorem ty_int_B : isTy "int" (.bl b) = true := by show tyB "bool" "int" = _; decide
theorem ty_int_I : isTy "int" (.int i) = true := by show tyB "int" "int" = _; decide
theorem ty_int_S : isTy "int" (.str s) = false := by show tyB "str" "int" = _; decide
theorem ty_int_T : isTy "int" (.tup xs) = false := by show tyB "tuple" "int" = _; decide
theorem ty_int_L : isTy "int" (.lst xs) = false := by show tyB "list" "int" = _; decide
theorem ty_int_D : isTy "int" (.dct ks xs) = false := by show tyB "dict" "int" = _; decide
theorem ty_bool_N : isTy "bool" .non = false := by show tyB "NoneType" "bool" = _; decide
theorem ty_bool_B : isTy "bool" (.bl b) = true := by show tyB "bool" "bool" = _; decide
theorem ty_bool_I : isTy "bool" (.int i) = false := by show tyB "int" "bool" = _; decide
theorem ty_bool_S : isTy "bool" (.str s) = false := by show tyB "str" "bool" = _; decide
theorem ty_bool_T : isTy "bool" (.tup xs) = false := by show tyB "tuple" "bool" = _; decide
theorem ty_bool_L : isTy "bool" (.lst xs) = false := by show tyB "list" "bool" = _; decide
theorem ty_bool_D : isTy "bool" (.dct ks xs) = false := by show tyB "dict" "bool" = _; decide
theorem ty_str_N : isTy "str" .non = false := by show tyB "NoneType" "str" = _; decide
theorem ty_str_B : isTy "str" (.bl b) = false := by show tyB "bool" "str" = _; decide
theorem ty_str_I : isTy "str" (.int i) = false := by show tyB "int" "str" = _; decide
theorem ty_str_S : isTy "str" (.str s) = true := by show tyB "str" "str" = _; decide
theorem ty_str_T : isTy "str" (.tup xs) = false := by show tyB "tuple" "str" = _; decide
theorem ty_str_L : isTy "str" (.lst xs) = false := by show tyB "list" "str" = _; decide
theorem ty_str_D : isTy "str" (.dct ks xs) = false := by show tyB "dict" "str" = _; decide
theorem ty_tuple_N : isTy "tuple" .non = false := by show tyB "NoneType" "tuple" = _; decide
theorem ty_tuple_B : isTy "tuple" (.bl b) = false := by show tyB "bool" "tuple" = _; decide
theorem ty_tuple_I : isTy "tuple" (.int i) = false := by show tyB "int" "tuple" = _; decide
theorem ty_tuple_S : isTy "tuple" (.str s) = false := by show tyB "str" "tuple" = _; decide
theorem ty_tuple_T : isTy "tuple" (.tup xs) = true := by show tyB "tuple" "tuple" = _; decide
theorem ty_tuple_L : isTy "tuple" (.lst xs) = false := by show tyB "list" "tuple" = _; decide
theorem ty_tuple_D : isTy "tuple" (.dct ks xs) = false := by show tyB "dict" "tuple" = _; decide
theorem ty_list_N : isTy "list" .non = false := by show tyB "NoneType" "list" = _; decide
theorem ty_list_B : isTy "list" (.bl b) = false := by show tyB "bool" "list" = _; decide
theorem ty_list_I : isTy "list" (.int i) = false := by show tyB "int" "list" = _; decide
theorem ty_list_S : isTy "list" (.str s) = false := by show tyB "str" "list" = _; decide
theorem ty_list_T : isTy "list" (.tup xs) = false := by show tyB "tuple" "list" = _; decide
theorem ty_list_L : isTy "list" (.lst xs) = true := by show tyB "list" "list" = _; decide
theorem ty_list_D : isTy "list" (.dct ks xs) = false := by show tyB "dict" "list" = _; decide
theorem ty_dict_N : isTy "dict" .non = false := by show tyB "NoneType" "dict" = _; decide
theorem ty_dict_B : isTy "dict" (.bl b) = false := by show tyB "bool" "dict" = _; decide
theorem ty_dict_I : isTy "dict" (.int i) = false := by show tyB "int" "dict" = _; decide
theorem ty_dict_S : isTy "dict" (.str s) = false := by show tyB "str" "dict" = _; decide
theorem ty_dict_T : isTy "dict" (.tup xs) = false := by show tyB "tuple" "dict" = _; decide
theorem ty_dict_L : isTy "dict" (.lst xs) = false := by show tyB "list" "dict" = _; decide
theorem ty_dict_D : isTy "dict" (.dct ks xs) = true := by show tyB "dict" "dict" = _; decide
end
end Mn

namespace Mn
open PySem PySem.Spec PyProof.Rows L2
/-! ### dicts of constants -/
section
variable {X : Cx} {W : WX} {pos : Pos}
theorem rep_dct {K : PySem.W.Frag} {H : Hp} {m : Ms} {p : Addr} {kvs : List (Key × V)} {ds : List D} (w : MutOk H m) (n : H p = none) (r : RepL K H m ds (kvs.map Prod.snd)) : Rep K (upd H p (.dK kvs)) m (.dct (kvs.map Prod.fst) ds) (.ref p) := by
  unfold Rep
  have e : (kvs.map Prod.fst).zip (kvs.map Prod.snd) = kvs := by
    clear r
    induction kvs with
    | nil => rfl
    | cons a l ih => rw [List.map_cons, List.map_cons, List.zip_cons_cons, ih]
  refine ⟨p, kvs.map Prod.snd, rfl, fun z => ?_, by rw [e]; exact upd_same, by rw [List.length_map, List.length_map], RepL.mono w (.same (same_upd n)) _ _ r⟩
  obtain ⟨vs, e⟩ := w p z
  rw [n] at e; cases e
theorem ce_dct0 : CE X W (.Dict [] [] pos) (cC (.dct [] [])) :=
  ⟨pe_wk pe_dnewK fun σ H Q ⟨en, sc, hc, m, E, P, r, k, xo, fin⟩ p n => fin _ hc k _ _ m (Ex.same r.toWd (same_upd n)) (rep_dct (kvs := []) r.mu n RepL.nil)⟩
theorem tPairs_c {σ : L2.St} : ∀ (kvs : List (Key × V)) (H : Hp) (Q : List (V × V) → Hp → Prop), Q (kvs.map fun kv => (kV kv.1, kv.2)) H → tPairs (kvs.map fun kv => (tC (kV kv.1), tC kv.2)) σ H Q
  | [], H, Q, h => h
  | kv :: r, H, Q, h => tPairs_c r H (fun ps H3 => Q ((kV kv.1, kv.2) :: ps) H3) h
theorem upd_upd {H : Hp} {p : Addr} {a b : HO} : upd (upd H p a) p b = upd H p b := by
  funext q
  unfold upd
  split <;> rfl
theorem ce_dct {keys : List (Option Expr)} {values : List Expr} {ds : List D} (kvs : List (Key × V)) (h : PPs X pos keys values (kvs.map fun kv => (tC (kV kv.1), tC kv.2))) (hr : ∀ H m, RepL X.K H m ds (kvs.map Prod.snd)) (hm : mergeK [] kvs = kvs := by rfl) (hall : keys.all (·.isSome) = true := by rfl) (hl : keys.length = values.length := by rfl) (h0 : keys ≠ [] := by exact List.cons_ne_nil _ _)
    (h15 : keys.length ≤ 15 := by exact Nat.le_of_ble_eq_true rfl) (hk : kvs.length ≤ 15 := by exact Nat.le_of_ble_eq_true rfl) : CE X W (.Dict keys values pos) (cC (.dct (kvs.map Prod.fst) ds)) :=
  ⟨pe_wk (pe_disp h hall hl h0 h15) fun σ H Q ⟨en, sc, hc, m, E, P, r, k, xo, fin⟩ p n => tPairs_c kvs _ _ ⟨upd_same, kvs, rfl, hk, by
    rw [upd_upd, hm]
    exact fin _ hc k _ _ m (Ex.same r.toWd (same_upd n)) (rep_dct r.mu n (hr H m))⟩⟩
end
/-! ### str(..) -/
def strD : On := fun ds _ P => match ds with
  | [.int i] => i.natAbs < 2 ^ 12900 ∧ P (.str (toString i))
  | [.str s] => P (.str s)
  | _ => False
theorem strOf_big {prog : Program} {w : World} {A : Around} {E : Value → Shared → Prop} {s : Shared} {a : Int} {t : Tok} {Q : Value → Shared → Prop} (S : Stat s.heap) (h : IntTxt a = true) (q : Q (.str (toString a) s.toks) { s with toks := s.toks + 1 }) : wpAny (model prog w) A (Builtin.Str.strOf (.int a t)) Q E s := by
  unfold Builtin.Str.strOf
  rw [show Builtin.Str.isExactStr (.int a t) = false from rfl]
  try (have hv : [Value.int a t].any Value.onHeap = false := rfl; simp only [cRoomFor, hv, Bool.false_eq_true, if_false, pure_bind])
  refine wpAny_bind (m := callSpecial? (.int a t) (Str.ofString "__str__")) (wpAny_callSpecial?_slot (name := Str.ofString "__str__") (typeIs_int s a t) F.slot_int_str ?_)
  refine wpAny_call_entry F.slot_int_str (typeIs_int s a t) entry_object_str ?_ (args_object_str _)
  unfold Builtin.«object.__str__»
  refine wpAny_bind (m := slotArgs "__str__" 0 _) (wpAny_pure ?_)
  try (have hv : [Value.int a t].any Value.onHeap = false := rfl; simp only [cRoomFor, hv, Bool.false_eq_true, if_false, pure_bind])
  refine wpAny_bind (m := callSpecialIfBound? (.int a t) (Str.ofString "__repr__")) (wpAny_callSpecialIfBound?_slot (name := Str.ofString "__repr__") (typeIs_int s a t) F.slot_int_repr (call_intrepr S h ?_))
  exact wpAny_pure ⟨_, rfl, wpAny_pure q⟩
theorem str_of_big {prog : Program} {w : World} {A : Around} {E : Value → Shared → Prop} {s : Shared} {a : Int} {t : Tok} {Q : Value → Shared → Prop} (S : Stat s.heap) (h : IntTxt a = true) (q : Q (.str (toString a) s.toks) { s with toks := s.toks + 1 }) : wpAny (model prog w) A (call (.type "str") [.int a t]) Q E s :=
  callType_new F.called_str (by decide) (F.typeCall_str_1 _) (F.newCall_str_1 _) (fun obj => F.args_object_init_2 obj _) F.entry_str_new
    (meets_str_new (S := fun _ R s => Stat s.heap ∧ R (.ok (.ret (.str (toString a) s.toks))) { s with toks := s.toks + 1 }) fun _ _ _ _ _ hq => strOf_big hq.1 h hq.2) ⟨S, typeIs_str _ _ _, q⟩
theorem bt_str {X : Cx} (st : statK X.K = true) : CallR X (.type "str") (LVn X.K strD) := by
  intro pins s σ H xs us Q I r h
  obtain ⟨hc', m, ds, P, w, h1, f, fin⟩ := h
  unfold strD at f
  split at f
  · obtain ⟨x, rfl, k1⟩ := wl1 h1
    unfold RepW Rep at k1
    subst k1
    obtain ⟨u, rfl, ru⟩ := vals1 r
    obtain ⟨t, rfl⟩ := ru
    exact str_of_big (stat_of I.kIn I.nolimit st) (decide_eq_true f.1) ⟨.str _, H, I.tok _, ⟨_, rfl⟩, fin _ f.2 _ _ (.refl H) rep_str⟩
  · obtain ⟨x, rfl, k1⟩ := wl1 h1
    unfold RepW Rep at k1
    subst k1
    obtain ⟨u, rfl, ru⟩ := vals1 r
    obtain ⟨t, rfl⟩ := ru
    exact PySem.P.str_of_str ⟨.str _, H, I, ⟨_, rfl⟩, fin _ f _ _ (.refl H) rep_str⟩
  · exact f.elim
theorem o_str {i : Int} {hc : CH} {P : D → Prop} : strD [.int i] hc P = (i.natAbs < 2 ^ 12900 ∧ P (.str (toString i))) := rfl
theorem o_strS {s : Str} {hc : CH} {P : D → Prop} : strD [.str s] hc P = P (.str s) := rfl
/-! ### shapes of values -/
theorem cutX_len {α : Type} (xs : List α) (lo hi : Option Int) : (cutX xs lo hi).length ≤ xs.length := by
  unfold cutX
  rw [List.length_take, List.length_drop]
  omega
theorem cutX_mem {α : Type} {xs : List α} {lo hi : Option Int} {x : α} (h : x ∈ cutX xs lo hi) : x ∈ xs := List.mem_of_mem_drop (List.mem_of_mem_take h)
def shB (n c : Nat) (d : D) : Bool := match toPr d with
  | some p => bigP p && (decide (p.depth ≤ n) && decide (p.shown.length ≤ c))
  | none => false
theorem Sh.lit {n c : Nat} {d : D} (h : shB n c d = true) : Sh n c d := by
  unfold shB at h
  cases e : toPr d with
  | none => rw [e] at h; cases h
  | some p =>
    rw [e] at h
    have h : (bigP p && (decide (p.depth ≤ n) && decide (p.shown.length ≤ c))) = true := h
    rw [Bool.and_eq_true, Bool.and_eq_true, decide_eq_true_iff, decide_eq_true_iff] at h
    exact ⟨p, e, h.1, h.2.1, h.2.2⟩
theorem toPrL_mem : ∀ {ds : List D} {ps : List PyData} {d : D}, toPrL ds = some ps → d ∈ ds → ∃ p, toPr d = some p
  | [], _, _, _, h => nomatch h
  | x :: ds, ps, d, e, h => by
    unfold toPrL at e
    split at e
    · rename_i p qs e1 e2
      rcases List.mem_cons.mp h with rfl | h
      · exact ⟨p, e1⟩
      · exact toPrL_mem e2 h
    · cases e
theorem nr_of {d : D} {p : PyData} (h : toPr d = some p) : NoRef d := by
  cases d <;> first | trivial | (unfold toPr at h; cases h)
theorem Sh.nr {n c : Nat} {d : D} (h : Sh n c d) : NoRef d := nr_of h.choose_spec.1
theorem Sh.nrT {n c : Nat} {xs : List D} (h : Sh n c (.tup xs)) : ∀ x ∈ xs, NoRef x := fun x hx => by
  obtain ⟨p, e, _⟩ := h
  unfold toPr at e
  cases e2 : toPrL xs with
  | none => rw [e2] at e; cases e
  | some ps =>
    obtain ⟨q, e3⟩ := toPrL_mem e2 hx
    exact nr_of e3
theorem sh_tupK {n c k : Nat} {xs : List D} (hl : xs.length ≤ k) (h : ∀ d ∈ xs, Sh n c d) : Sh (n + 1) (k * (c + 2) + 3) (.tup xs) := (sh_tup h).up (Nat.le_refl _) (by
  have := Nat.mul_le_mul_right (c + 2) hl
  omega)
theorem sh_lstK {n c k : Nat} {xs : List D} (hl : xs.length ≤ k) (h : ∀ d ∈ xs, Sh n c d) : Sh (n + 1) (k * (c + 2) + 2) (.lst xs) := (sh_lst h).up (Nat.le_refl _) (by
  have := Nat.mul_le_mul_right (c + 2) hl
  omega)
section
variable {hc : CH} {P : D → Prop} {xs : List D} {s : Str} {b : Bool} {ks : List Key}
theorem o_isN5 : isND (.str s) .non hc P = P (.bl false) := rfl
theorem o_isN6 : isND (.bl b) .non hc P = P (.bl false) := rfl
theorem o_isN7 : isND (.dct ks xs) .non hc P = P (.bl false) := rfl
theorem o_notN5 : notND (.str s) .non hc P = P (.bl true) := rfl
theorem o_notN6 : notND (.bl b) .non hc P = P (.bl true) := rfl
theorem o_notN7 : notND (.dct ks xs) .non hc P = P (.bl true) := rfl
theorem o_lenS : lenD [.str s] hc P = (s.length ≤ sizeLine ∧ P (.int s.length)) := rfl
end
/-! ### e[::-1], e a list or a tuple -/
section
variable {prog : Program} {w : World} {A : Around} {E : Value → Shared → Prop} {s : Shared}
theorem adj_back (n : Nat) : Builtin.Slice.sliceAdjust none none (-1) (n : Int) = ((n : Int) - 1, -1) := by
  unfold Builtin.Slice.sliceAdjust
  simp
theorem places_back (n : Nat) : Builtin.Slice.slicePlaces ((n : Int) - 1) (-1) (-1) = n := by
  unfold Builtin.Slice.slicePlaces
  rcases Nat.eq_zero_or_pos n with rfl | h
  · rfl
  · simp
    split <;> omega
theorem applied_back {sl : Addr} {one : Value} {n : Nat} {Q : Int × Int × Nat → Shared → Prop} (hsl : s.heap.IsSliceOf sl .none .none one) (p1 : IsPart one (some (-1))) (k : Q ((n : Int) - 1, -1, n) s) : wpAny (model prog w) A (Builtin.Slice.sliceApplied (.ref sl) (pure (n : Int))) Q E s := by
  obtain ⟨ob, g1, _, g2⟩ := hsl
  unfold Builtin.Slice.sliceApplied; unfold Builtin.Slice.sliceFields
  refine wpAny_bind (wpAny_bind (wpAny_field g1 g2 (x := .none) rfl (wpAny_bind (wpAny_field g1 g2 (x := .none) rfl (wpAny_bind (wpAny_field g1 g2 (x := one) rfl (wpAny_pure ?_)))))))
  refine wpAny_bind (HT.slicePart_ p1 ?_)
  show wpAny _ _ (if ((-1 : Int) == 0) = true then _ else _) Q _ s
  rw [if_neg (show ¬ ((-1 : Int) == 0) = true by decide)]
  refine wpAny_bind (PyProof.Rows.slicePart_none (wpAny_bind (PyProof.Rows.slicePart_none (wpAny_bind (wpAny_pure ?_)))))
  show wpAny _ _ (match Builtin.Slice.sliceAdjust none none (-1) (n : Int) with | (a, b) => pure (a, (-1 : Int), Builtin.Slice.slicePlaces a b (-1))) Q _ s
  rw [adj_back]
  show wpAny _ _ (pure ((n : Int) - 1, (-1 : Int), Builtin.Slice.slicePlaces ((n : Int) - 1) (-1) (-1))) Q _ s
  rw [places_back]
  exact wpAny_pure k
theorem pick_back (xs : List Value) : ((List.range xs.length).filterMap fun (j : Nat) => xs.toArray[((xs.length : Int) - 1 + (j : Int) * -1).toNat]?) = xs.reverse := by
  have e : ∀ j ∈ List.range xs.length, xs.toArray[((xs.length : Int) - 1 + (j : Int) * -1).toNat]? = xs.reverse[j]? := fun j hj => by
    have hj := List.mem_range.mp hj
    rw [List.getElem?_reverse hj, show ((xs.length : Int) - 1 + (j : Int) * -1).toNat = xs.length - 1 - j by omega]
    simp
  have all : ∀ ys : List Value, (List.range ys.length).filterMap (fun j => ys[j]?) = ys := fun ys => by
    induction ys with
    | nil => rfl
    | cons a l ih => rw [List.length_cons, List.range_succ_eq_map, List.filterMap_cons]; simp only [List.getElem?_cons_zero, List.filterMap_map]; exact congrArg (a :: ·) ih
  have go : ∀ l : List Nat, (∀ j ∈ l, xs.toArray[((xs.length : Int) - 1 + (j : Int) * -1).toNat]? = xs.reverse[j]?) → (l.filterMap fun (j : Nat) => xs.toArray[((xs.length : Int) - 1 + (j : Int) * -1).toNat]?) = l.filterMap fun j => xs.reverse[j]? := fun l => by
    induction l with
    | nil => intro _; rfl
    | cons a l ih =>
      intro h
      rw [List.filterMap_cons, List.filterMap_cons, h a (List.mem_cons_self ..), ih fun j hj => h j (List.mem_cons_of_mem _ hj)]
  rw [go _ e]
  have := all xs.reverse
  rw [List.length_reverse] at this
  exact this
theorem tuple_back {t sl : Addr} {its : List Value} {one : Value} {Q : Value → Shared → Prop} (ht : IsTup s.heap t its.toArray) (hsl : s.heap.IsSliceOf sl .none .none one) (p1 : IsPart one (some (-1))) (hz : its.length ≤ sizeLine)
    (k : Q (.ref s.heap.objs.size) { s with heap := s.heap.push { cls := .type "tuple", data := .seq its.reverse.toArray } }) : wpAny (model prog w) A (getItem (.ref t) (.ref sl)) Q E s := by
  have fits : sizeOk (.seq its.reverse.toArray) := by
    show its.reverse.toArray.size ≤ sizeLine
    rw [List.size_toArray, List.length_reverse]; exact hz
  obtain ⟨ob, g1, g2, g3⟩ := id hsl
  have isl : s.TypeIs (.ref sl) "slice" := ⟨ob, g1, g2⟩
  have itp := ht.typeIs
  unfold getItem
  try with_reducible refine wpAny_holding ?_
  first | refine wpAny_bind (wpAny_pure ?_) | skip
  refine wpAny_bind (wpAny_sequenceKey itp (by decide) ?_)
  refine wpAny_bind (wpAny_callSpecial?_slot (name := Str.ofString "__getitem__") itp PyProof.Rows.slot_tuple_getitem (wpAny_call_entry PyProof.Rows.slot_tuple_getitem itp PyProof.Rows.entry_tuple_getitem ?_ (PyProof.Rows.args_tuple_getitem _ _)))
  show wpAny _ _ (Builtin.Tuple.tupleItemsOf (.ref t) >>= _) _ _ s
  refine wpAny_bind (PyProof.Rows.tupleItemsOf_ ht (wpAny_bind (wpAny_typeOf isl ?_)))
  rw [if_pos (show (Value.type "slice" == .type "slice") = true by decide)]
  have sz : its.toArray.size = its.length := List.size_toArray ..
  rw [sz]
  refine wpAny_bind (applied_back hsl p1 ?_)
  have not1 : ¬ ((((its.length : Int) - 1) == 0 && (-1 : Int) == 1 && its.length == its.toArray.size) = true) := by
    rw [show ((-1 : Int) == 1) = false by decide, Bool.and_false, Bool.false_and]; exact Bool.false_ne_true
  show wpAny _ _ (if ((((its.length : Int) - 1) == 0 && (-1 : Int) == 1 && its.length == its.toArray.size) = true) then _ else _) _ _ s
  rw [if_neg not1]
  rw [pick_back its]
  first
    | exact wpAny_bind (m := Builtin.Tuple.tupleExact _) (wpAny_newObj_type (wpAny_pure ⟨_, rfl, wpAny_pure k⟩) fits)
    | exact wpAny_bind (m := Builtin.Tuple.tupleExact _) (wpAny_newObj_type (wpAny_bind (wpAny_pure (wpAny_pure ⟨_, rfl, wpAny_pure k⟩))) fits)
    | exact wpAny_bind (wpAny_bind (m := Builtin.Tuple.tupleExact _) (wpAny_newObj_type (wpAny_pure (wpAny_pure ⟨_, rfl, wpAny_pure k⟩)) fits))
    | exact wpAny_bind (wpAny_bind (m := Builtin.Tuple.tupleExact _) (wpAny_newObj_type (wpAny_pure ⟨_, rfl, wpAny_pure k⟩) fits))
end
def tRevB (K : PySem.W.Frag) (te : TE) : TE := fun σ H Q => te σ H fun x H1 => ∃ a, x = .ref a ∧ ((∃ xs, SqL K H1 a xs ∧ ∀ p, H1 p = none → Q (.ref p) (upd H1 p (.lst xs.reverse))) ∨ ∃ xs, SqT K H1 a xs ∧ ∀ p, H1 p = none → Q (.ref p) (upd H1 p (.tup xs.reverse)))
theorem pe_revB {X : Cx} {e : Expr} {te : TE} {k : Nat} {p1 p2 p3 pos : Pos} (he : PE X e te) : PE X (.Subscript e (.Slice none none (some (.UnaryOp .USub (.Constant (.int 1) k p1) p2)) p3) pos) (tRevB X.K te) := by
  refine ⟨fun pins s σ H Q I h => Subscript_ (thn (he.run pins s σ H _ I h) fun v s1 ⟨x, H1, I1, r1, a, ex, q⟩ => ?_)⟩
  subst ex
  cases r1
  have hst : PO X (some (.UnaryOp .USub (.Constant (.int 1) k p1) p2)) (tPart (tUn (rU fun i => .int (-i)) (tC (.int 1)))) := po_some (pe_un un_neg pe_int)
  refine wpAny_Slice (thn (L2.po_none.run pins s1 σ H1 (fun o Ha => o = none ∧ Ha = H1) I1 ⟨rfl, rfl⟩) fun vl s2 ⟨l, Ha, Ia, pl, el, ea⟩ => ?_)
  subst el ea
  refine thn (L2.po_none.run pins s2 σ Ha (fun o Hb => o = none ∧ Hb = Ha) Ia ⟨rfl, rfl⟩) fun vu s3 ⟨u, Hb, Ib, pu, eu, eb⟩ => ?_
  subst eu eb
  refine thn (hst.run pins s3 σ Hb (fun o Hc => o = some (-1) ∧ Hc = Hb) Ib ⟨1, rfl, -1, rfl, rfl, rfl⟩) fun vs s4 ⟨o, Hc, Ic, ps, eo, ec⟩ => ?_
  subst eo ec
  have Id : Inv X pins σ Hc { s4 with heap := s4.heap.push { cls := .type "slice", data := .fields #[vl, vu, vs] } } := Ic.kept (t' := s4.toks) fun b ob z => Heap.get?_push_of_some _ z
  cases pl
  cases pu
  rcases q with ⟨xs, hx, q⟩ | ⟨xs, hx, q⟩
  · obtain ⟨its, r, ht, hz⟩ := Id.list hx
    show wpAny (model X.prog X.w) X.A (subscriptTail e (.Slice none none (some (.UnaryOp .USub (.Constant (.int 1) k p1) p2)) p3) (.ref a) (.ref s4.heap.objs.size)) (EP X pins σ Q) X.xe { s4 with heap := s4.heap.push { cls := .type "slice", data := .fields #[.none, .none, vs] } }
    refine tail_any (ops := [.ref a, .ref s4.heap.objs.size]) ht.isList.typeIs PySem.slot_list_getitem.lookup ?_ (by with_unfolding_all rfl)
    refine wpAny_getItem_list_slice ht.isList (Heap.IsSliceOf.new _ .none .none vs) .none .none ps (by decide) ?_ (by rw [List.size_toArray, ← r.length]; exact hz)
    rw [PySem.W.krv_pick]
    exact ⟨.ref _, _, Id.laid (t' := s4.toks) (o := .lst xs.reverse) (fun b ob z => Heap.get?_push_of_some _ z) (Nat.le_refl _) ⟨by rw [List.length_reverse]; exact hz, _, 0, r.reverse, Heap.get?_push_size _ rfl⟩, rfl, q _ (Id.hok.fresh (Nat.le_refl _))⟩
  · obtain ⟨its, r, ht, hz⟩ := Id.tuple hx
    show wpAny (model X.prog X.w) X.A (subscriptTail e (.Slice none none (some (.UnaryOp .USub (.Constant (.int 1) k p1) p2)) p3) (.ref a) (.ref s4.heap.objs.size)) (EP X pins σ Q) X.xe { s4 with heap := s4.heap.push { cls := .type "slice", data := .fields #[.none, .none, vs] } }
    refine tail_any (ops := [.ref a, .ref s4.heap.objs.size]) ht.typeIs PyProof.Rows.slot_tuple_getitem.lookup ?_ (by with_unfolding_all rfl)
    refine tuple_back ht (Heap.IsSliceOf.new _ .none .none vs) ps (by rw [← r.length]; exact hz) ?_
    exact ⟨.ref _, _, Id.laid (t' := s4.toks) (o := .tup xs.reverse) (fun b ob z => Heap.get?_push_of_some _ z) (Nat.le_refl _) ⟨by rw [List.length_reverse]; exact hz, _, r.reverse, IsTup.new _ _⟩, rfl, q _ (Id.hok.fresh (Nat.le_refl _))⟩
def revB : O1
  | .lst xs, _, P => P (.lst xs.reverse)
  | .tup xs, _, P => P (.tup xs.reverse)
  | _, _, _ => False
theorem ce_revB {X : Cx} {W : WX} {e : Expr} {ce : CEx} {pos : Pos} {k : Nat} {p1 p2 p3 : Pos} (h : CB X W e ce) : CE X W (.Subscript e (.Slice none none (some (.UnaryOp .USub (.Constant (.int 1) k p1) p2)) p3) pos) (cUn revB ce) :=
  ⟨pe_wk (pe_revB h.p) fun σ H Q ⟨en, sc, hc, m, E, P, r, k, xo, fin⟩ =>
    ⟨en, sc, hc, m, E, _, r, k, xo, fun d hc1 p v H1 m1 x1 q => by
      have q := q.w (r.call x1)
      cases d <;> try exact p.elim
      · unfold RepW Rep at q
        obtain ⟨a, vs, rfl, q1, rl⟩ := q
        exact ⟨a, rfl, .inr ⟨vs, q1, fun l n => fin _ hc1 p _ _ _ (x1.trans (.same x1.toWd (same_upd n))) (rep_tup x1.mu n rl.rev)⟩⟩
      · unfold RepW at q
        obtain ⟨a, vs, rfl, q1, rl⟩ := q
        exact ⟨a, rfl, .inl ⟨vs, .of q1, fun l n => fin _ hc1 p _ _ _ (x1.trans (.same x1.toWd (same_upd n))) (rep_lst x1.mu n rl.rev)⟩⟩⟩⟩
theorem o_revBL {xs : List D} {hc : CH} {P : D → Prop} : revB (.lst xs) hc P = P (.lst xs.reverse) := rfl
theorem o_revBT {xs : List D} {hc : CH} {P : D → Prop} : revB (.tup xs) hc P = P (.tup xs.reverse) := rfl
/-! ### texts of integers as values -/
theorem ofS_small (x : String) : ∀ c ∈ (Str.ofString x).cps.toList, c < 16 ^ 8 := fun c hc => by
  rw [Str.ofString_eq_toList] at hc
  simp at hc
  obtain ⟨a, _, rfl⟩ := hc
  have := a.val.toNat_lt
  show a.val.toNat < 16 ^ 8
  omega
theorem sh_txt {i : Int} {k : Nat} (h0 : 0 < k) (h : i.natAbs < 10 ^ k) : Sh 0 (10 * (k + 1) + 2) (.str (toString i)) := sh_str (by
  have e := int_text_length_le10 h0 h
  have l := StrLaws.reprText_len (Str.ofString (toString i)) (ofS_small _)
  rw [PySem.ofString_length] at l
  omega)
theorem sh_small {i : Int} {n c : Nat} (h : i.natAbs < 1000000000) (hc : 10 ≤ c := by decide) : Sh n c (.int i) := (sh_dig (k := 9) (by decide) (by
  have : (10 : Nat) ^ 9 = 1000000000 := by decide
  omega) (Nat.lt_of_lt_of_le h (by decide +kernel))).up (Nat.zero_le _) hc
theorem sh_stxt {i : Int} {n c : Nat} (h : i.natAbs < 1000000000) (hc : 102 ≤ c := by decide) : Sh n c (.str (toString i)) := (sh_txt (k := 9) (by decide) (by
  have : (10 : Nat) ^ 9 = 1000000000 := by decide
  omega)).up (Nat.zero_le _) hc
/-- x = e: what follows the value is a letter -/
theorem asg_step {ce : CEx} {i : Nat} {C : CEnds} {sc : List Sl} {hc : CH} (h : ∀ L : D → CH → Prop, (∀ d hc', C.nx (sc.set i (.val d)) hc' → L d hc') → ce C.xp sc hc L) : cAsg ce (gN i) C sc hc :=
  h (fun d hc' => C.nx (sc.set i (.val d)) hc') fun _ _ z => z
/-! ### x[e] = v, x an owned list -/
def gSubO (i : Nat) (ci : CEx) : CGx := fun E d sc hc P => match lookO sc i with
  | some ds => ci E sc hc fun y hc1 => match y with
    | .int k => oth (ixN ds.length k) fun j => P (sc.set i (.own (ds.set j d))) hc1
    | _ => False
  | none => False
theorem cg_sO {X : Cx} {W : WX} {x : Str} {px pos : Pos} {ie : Expr} {ci : CEx} (i : Nat) (hi : CE X W ie ci) (hN : X.N[i]? = some x := by rfl) (hv : Vis X.env.scope x := by first | exact Or.inl rfl | exact Or.inr (Or.inl rfl) | exact Or.inr (Or.inr rfl)) (hd : (x == ("__debug__" : Str)) = false := by decide) (hcd : (x == ("__classdict__" : Str)) = false := by decide)
    (ha : ∀ v, assign (.Subscript (.Name x px) ie pos) X.env v = (do
      let ov ← holding [v] (eval (.Name x px) X.env)
      let iv ← holding [v, ov] (eval ie X.env)
      standAt pos
      holding [v, ov, iv] (setItem ov iv v)
      release [v, ov, iv] []) := by intro _; rfl) : CG X W (.Subscript (.Name x px) ie pos) (gSubO i ci) :=
  ⟨pg_wk (pg_sub (pv i hN hv hd hcd) hi.p set_list ha) fun v σ H Q ⟨en, sc, hc, m, E, d, P, r, q, k, xo, f⟩ => by
    unfold gSubO at k
    split at k
    case h_2 => exact k.elim
    rename_i ds e0
    have e' := lookO_get e0
    obtain ⟨p, vs, e1, ma, h0, h1, eH, q1⟩ := r.own i ds e'
    refine ⟨.ref p, e1, en, sc, hc, m, E, _, r, k, xo, fun y hc1 k2 v2 H1 m1 x1 q2 => ?_⟩
    cases y <;> try exact k2.elim
    obtain ⟨j, ej, k3⟩ := oth_of k2
    unfold Rep at q2
    subst q2
    have r1 := r.call x1
    have s1 := x1.stp
    obtain ⟨p2, vs2, e2, _, _, _, eH2, qq⟩ := r1.own i ds e'
    rw [e1] at e2; cases e2
    have qd := Rep.mono r.mu s1 _ _ q
    obtain ⟨r2, s2⟩ := r1.grown e' e1 (RepL.set qd j qq)
    exact ⟨p, vs2, _, j, rfl, rfl, eH2, by rw [← qq.length]; exact ej, f _ _ k3 _ _ m1 r2 (s1.trans s2)⟩⟩
theorem e_gSubO {i : Nat} {ci : CEx} {E : XP} {d : D} {sc : List Sl} {hc : CH} {P : List Sl → CH → Prop} : gSubO i ci E d sc hc P = match lookO sc i with
  | some ds => ci E sc hc fun y hc1 => match y with
    | .int k => oth (ixN ds.length k) fun j => P (sc.set i (.own (ds.set j d))) hc1
    | _ => False
  | none => False := rfl
/-! ### a call without arguments -/
theorem ce_f0 {X : Cx} {W : WX} {x : Str} {p pos : Pos} {k l : Nat} {sp : Spc} (F : FnAt X.prog X.w X.K X.mg X.base k x [] sp) (hr : RT l X W) (hl : k ≤ l := by decide)
    (hg : Gl X x := by rfl) (hdb : (x == ("__debug__" : Str)) = false := by decide) : CE X W (.Call (.Name x p) [] [] pos) (cCall sp cNil) := by
  obtain ⟨f, fd, F1, hm, hk, hb, _⟩ := F
  exact ⟨pe_wk (pe_callX0 F1 (hr.mono hl) hg hm hk hb .nil hdb) fun σ H Q ⟨en, sc, hc, m, E, P, r, k, xo, fin⟩ =>
    ⟨hc, m, [], P, _, r.toWd, RepL.nil, k, fun d hc' pd v H' m' x q => fin d hc' pd v H' m' x q, fun y hc' py cls dx H' m' x q => xo y sc hc' py cls dx σ H' m' (r.call x) q⟩⟩
/-! ### repr of a value, of a list that is changed -/
def dref (hc : CH) : D → Option D
  | .ref a => (hc a).map D.lst
  | d => some d
def reprRD : On := fun ds hc P => match ds with
  | [d] => oth (dref hc d) fun e => ShOk e ∧ P (.str (shw e))
  | _ => False
theorem bf_reprR {X : Cx} {k : Nat} (g : RG k X.A) (st : statK X.K = true) : CallR X (.builtin "repr") (LVn X.K reprRD) := by
  intro pins s σ H xs us Q I r h
  obtain ⟨hc', m, ds, P, w, h1, f, fin⟩ := h
  unfold reprRD at f
  split at f
  · rename_i d
    obtain ⟨e, he, f⟩ := oth_of f
    obtain ⟨v, rfl, k1⟩ := wl1 h1
    have k2 : RepW X.K H m e v := by
      cases d <;> try (have he : some _ = some e := he; cases he; exact k1)
      rename_i a
      unfold RepW Rep at k1
      subst k1
      have he : (hc' a).map D.lst = some e := he
      cases q : hc' a with
      | none => rw [q] at he; cases he
      | some zs =>
        rw [q] at he; cases he
        obtain ⟨vs, e1, rl⟩ := w.heap _ _ q
        unfold RepW
        exact ⟨a, vs, rfl, e1, rl⟩
    exact bf_repr g st pins s σ H _ us Q I r ⟨hc', m, [e], P, w, Paired.cons k2 .nil, f, fin⟩
  · exact f.elim
theorem o_reprR {d : D} {hc : CH} {P : D → Prop} : reprRD [d] hc P = oth (dref hc d) fun e => ShOk e ∧ P (.str (shw e)) := rfl
theorem o_tupR {a : Addr} {hc : CH} {P : D → Prop} : tupleFD [.ref a] hc P = oth (hc a) fun xs => P (.tup xs) := rfl
theorem e_LstM {c : CAx} {E : XP} {sc : List Sl} {hc : CH} {P : D → CH → Prop} : cLstM c E sc hc P = c E sc hc fun ds hc1 => ds.length ≤ sizeLine ∧ ∀ p, hc1 p = none → P (.ref p) (updc hc1 p ds) := rfl
theorem e_gSub {co ci : CEx} {E : XP} {d : D} {sc : List Sl} {hc : CH} {P : List Sl → CH → Prop} : gSub' co ci E d sc hc P = co E sc hc fun o hc1 => ci E sc hc1 fun i hc2 => match o, i with
  | .ref a, .int k => oth (hc2 a) fun ds => oth (ixN ds.length k) fun j => P sc (updc hc2 a (ds.set j d))
  | _, _ => False := rfl
theorem o_mulT {xs : List D} {i : Int} {hc : CH} {P : D → Prop} : mulD (.tup xs) (.int i) hc P = ((xs ≠ [] ∧ 2 ≤ i ∧ i ≤ 1000 ∧ xs.length ≤ 1000) ∧ P (.tup (List.replicate i.toNat xs).flatten)) := rfl
theorem o_slR {a : Addr} {lo hi : Option Int} {hc : CH} {P : D → Prop} : slD (.ref a) lo hi hc P = oth (hc a) fun xs => P (.lst (cutX xs lo hi)) := rfl
end Mn

namespace Mn
open PySem PySem.Spec PyProof.Rows L2
/-! ### tuples of constants at the module's top -/
/-- what the tuple at a has at place i, if it is an object -/
def itemAt (K : PySem.W.Frag) (a : Addr) (i : Nat) : Addr := match K.lookup a with
  | some ⟨_, _, .seq its _, _⟩ => (match its.toList[i]? with
    | some (.ref p) => p
    | _ => 0)
  | _ => 0
def constV (K : PySem.W.Frag) (a : Addr) (i : Nat) : D → V
  | .int i => .int i
  | .str s => .str s
  | .bl b => .bl b
  | .tup _ => .ref (itemAt K a i)
  | _ => .non
def constVs (K : PySem.W.Frag) (a : Addr) : Nat → List D → List V
  | _, [] => []
  | i, d :: ds => constV K a i d :: constVs K a (i + 1) ds
/-- is there a tuple of these at a? -/
def tupAt (K : PySem.W.Frag) (a : Addr) (vs : List V) : Bool := match K.lookup a with
  | some ⟨.type c, _, .seq its _, _⟩ => decide (c = "tuple") && (decide (its.size ≤ sizeLine) && He.relAll vs its.toList)
  | _ => false
mutual
/-- what stands below is as told -/
def deepB (K : PySem.W.Frag) (a : Addr) (i : Nat) : D → Bool
  | .int _ => true
  | .str _ => true
  | .bl _ => true
  | .non => true
  | .tup xs => tupAt K (itemAt K a i) (constVs K (itemAt K a i) 0 xs) && deepBs K (itemAt K a i) 0 xs
  | _ => false
def deepBs (K : PySem.W.Frag) (a : Addr) (i : Nat) : List D → Bool
  | [] => true
  | d :: ds => deepB K a i d && deepBs K a (i + 1) ds
end
def tupN (K : PySem.W.Frag) (x : Str) (ds : List D) : Bool := tupAt K (He.ga K x) (constVs K (He.ga K x) 0 ds) && deepBs K (He.ga K x) 0 ds
theorem tupAt_ok {K : PySem.W.Frag} {a : Addr} {vs : List V} (h : tupAt K a vs = true) (H : Hp) : SqT K H a vs := by
  unfold tupAt at h
  split at h
  · next c d its n osl q =>
    rw [Bool.and_eq_true, Bool.and_eq_true, decide_eq_true_iff, decide_eq_true_iff] at h
    exact .inr ⟨_, its, n, q, congrArg Value.type h.1, rfl, h.2.1, He.relAll_ok h.2.2⟩
  · cases h
mutual
theorem deepB_ok {K : PySem.W.Frag} {H : Hp} {m : Ms} {a : Addr} {i : Nat} : ∀ d : D, deepB K a i d = true → Rep K H m d (constV K a i d)
  | .int _, _ => by unfold Rep; rfl
  | .str _, _ => by unfold Rep; rfl
  | .bl _, _ => by unfold Rep; rfl
  | .non, _ => by unfold Rep; rfl
  | .tup xs, h => by
    unfold deepB at h
    rw [Bool.and_eq_true] at h
    unfold Rep
    exact ⟨_, _, rfl, tupAt_ok h.1 H, deepBs_ok xs h.2⟩
  | .lst _, h => by unfold deepB at h; cases h
  | .ref _, h => by unfold deepB at h; cases h
  | .dct _ _, h => by unfold deepB at h; cases h
  | .frz _, h => by unfold deepB at h; cases h
  | .clo _ _ _, h => by unfold deepB at h; cases h
  | .exn _ _ _ _, h => by unfold deepB at h; cases h
  | .fn _, h => by unfold deepB at h; cases h
theorem deepBs_ok {K : PySem.W.Frag} {H : Hp} {m : Ms} {a : Addr} {i : Nat} : ∀ ds : List D, deepBs K a i ds = true → RepL K H m ds (constVs K a i ds)
  | [], _ => by unfold RepL; rfl
  | d :: ds, h => by
    unfold deepBs at h
    rw [Bool.and_eq_true] at h
    unfold RepL
    exact ⟨_, _, rfl, deepB_ok d h.1, deepBs_ok ds h.2⟩
end
theorem GlobC.tup {K : PySem.W.Frag} {mg : Str → Option Value} {x : Str} {ds : List D} (h : mg x = some (.ref (He.ga K x))) (t : tupN K x ds = true) (_ : ds.length = ds.length) : GlobC K mg x (.tup ds) := by
  unfold tupN at t
  rw [Bool.and_eq_true] at t
  refine ⟨.ref (He.ga K x), .ref (He.ga K x), h, rfl, fun H m => ?_⟩
  unfold Rep
  exact ⟨_, _, rfl, tupAt_ok t.1 H, deepBs_ok ds t.2⟩
/-! ### the hook with such tuples -/
abbrev TupC := List (Str × List D)
def obsU (fa : List He.Fa) (fn : List He.DefD) (tc : TupC) (K : PySem.W.Frag) : He.AlD × Bool := (He.obsD fa fn K, statK K && tc.all fun t => tupN K t.1 t.2)
def SaysU (fa : List He.Fa) (fn : List He.DefD) (tc : TupC) (K : PySem.W.Frag) : Prop := obsU fa fn tc K = (He.valD fn, true)
def obsUG (n : Nat) (fa : List He.Fa) (fn : List He.DefD) (tc : TupC) (g : Addr → Option Obj) : He.AlD × Bool := obsU fa fn tc (He.frG g (He.asD g n ++ [sysModules, cStatics]))
def hookU (n : Nat) (fa : List He.Fa) (fn : List He.DefD) (tc : TupC) : PySem.W.Hook where
  α := He.AlD × Bool
  obs := fun s => obsUG n fa fn tc s.heap.get?
  val := fun _ => (He.valD fn, true)
  says := fun _ h => ∃ K : PySem.W.Frag, K.In h ∧ SaysU fa fn tc K
  of := fun _ _ e => ⟨_, He.frG_in, e⟩
  keeps := fun _ _ _ ⟨K, hK, c⟩ k => ⟨K, PySem.W.Frag.In.keeps hK k, c⟩
theorem obsUG_eq {n : Nat} {fa : List He.Fa} {fn : List He.DefD} {tc : TupC} {g : Addr → Option Obj} {s : Shared} (h : ∀ a, g a = s.heap.get? a) : obsUG n fa fn tc g = (hookU n fa fn tc).obs s := by
  have e : g = s.heap.get? := funext h
  subst e
  rfl
theorem SaysU.d {fa : List He.Fa} {fn : List He.DefD} {tc : TupC} {K : PySem.W.Frag} (c : SaysU fa fn tc K) : He.SaysD fa fn K := congrArg (fun z : He.AlD × Bool => z.1) c
theorem SaysU.two {fa : List He.Fa} {fn : List He.DefD} {tc : TupC} {K : PySem.W.Frag} (c : SaysU fa fn tc K) : statK K = true ∧ (tc.all fun t => tupN K t.1 t.2) = true := by
  have h : (statK K && tc.all fun t => tupN K t.1 t.2) = true := congrArg (fun z : He.AlD × Bool => z.2) c
  rwa [Bool.and_eq_true] at h
theorem SaysU.s {fa : List He.Fa} {fn : List He.DefD} {tc : TupC} {K : PySem.W.Frag} (c : SaysU fa fn tc K) : statK K = true := c.two.1
theorem SaysU.t {fa : List He.Fa} {fn : List He.DefD} {tc : TupC} {K : PySem.W.Frag} (c : SaysU fa fn tc K) (i : Nat) {x : Str} {ds : List D} (h : tc[i]? = some (x, ds) := by rfl) : tupN K x ds = true :=
  List.all_eq_true.mp c.two.2 (x, ds) (List.mem_of_getElem? h)
end Mn

namespace Mn
open PySem PySem.Spec PyProof.Rows L2
/-! ### match upon a text: cases are texts, the last one may be anything -/
abbrev Arm := Option Str × CSx
def cArms : List Arm → Str → CSx
  | [], _ => cNext
  | (some z, c) :: r, x => fun C sc hc => if x = z then c C sc hc else cArms r x C sc hc
  | (none, c) :: _, _ => c
def cMatch (ce : CEx) (as : List Arm) : CSx := fun C sc hc => ce C.xp sc hc fun d hc1 => match d with
  | .str x => cArms as x C sc hc1
  | _ => False
inductive Arms (X : Cx) (W : WX) : List MatchCase → List Arm → Prop where
  | nil : Arms X W [] []
  | val {x : Str} {j : Nat} {p1 p2 : Pos} {body : List Stmt} {c : CSx} {r : List MatchCase} {rs : List Arm} (h : CSs X W body c) (hr : Arms X W r rs) : Arms X W (⟨.MatchValue (.Constant (.str x) j p1) p2, none, body⟩ :: r) ((some x, c) :: rs)
  | or2 {x y : Str} {j1 j2 : Nat} {p1 p2 p3 p4 p5 : Pos} {body : List Stmt} {c : CSx} {r : List MatchCase} {rs : List Arm} (h : CSs X W body c) (hr : Arms X W r rs) :
      Arms X W (⟨.MatchOr [.MatchValue (.Constant (.str x) j1 p1) p2, .MatchValue (.Constant (.str y) j2 p3) p4] p5, none, body⟩ :: r) ((some x, c) :: (some y, c) :: rs)
  | any {p : Pos} {body : List Stmt} {c : CSx} {r : List MatchCase} {rs : List Arm} (h : CSs X W body c) (hr : Arms X W r rs) : Arms X W (⟨.MatchAs none none p, none, body⟩ :: r) ((none, c) :: rs)
theorem pat_val {X : Cx} {pins : List (Addr × Obj)} {s : Shared} {σ : L2.St} {H : Hp} {x z : Str} {u : Value} {j : Nat} {p1 p2 : Pos} {Q : Option (List (Str × Value)) → Shared → Prop} (I : Inv X pins σ H s) (rx : RelV (.str x) u) (h : ∀ s', Inv X pins σ H s' → Q (if x = z then some [] else none) s') :
    wpAny (model X.prog X.w) X.A (matchPattern (.MatchValue (.Constant (.str z) j p1) p2) X.env u) Q X.xe s := by
  refine wpAny_matchPattern_Value (thn ((pe_str (X := X) (x := z) (j := j) (pos := p1)).run pins s σ H (fun v H' => v = .str z ∧ H' = H) I ⟨rfl, rfl⟩) fun y s1 ⟨v, H1, I1, rv, e1, e2⟩ => ?_)
  subst e1
  subst e2
  refine thn (op_eq pins s1 σ H1 (.str x) (.str z) u y (fun v H' => v = .bl (decide (V.str x = V.str z)) ∧ H' = H1) I1 rx rv ⟨rfl, rfl, rfl⟩) fun w s2 ⟨v2, H2, I2, rv2, e1, e2⟩ => ?_
  subst e2
  subst e1
  cases (show w = Value.bool (decide (V.str x = V.str z)) from rv2)
  refine wpAny_truthy_bool ?_
  have q := h s2 I2
  by_cases e : x = z
  · rw [if_pos e] at q
    rw [if_pos (by rw [e]; exact decide_eq_true rfl)]
    exact q
  · rw [if_neg e] at q
    rw [if_neg (by rw [decide_eq_true_iff]; intro q; exact e (by cases q; rfl))]
    exact q
theorem arms_run {X : Cx} {W : WX} {cases : List MatchCase} {as : List Arm} (h : Arms X W cases as) : ∀ (pins : List (Addr × Obj)) (s : Shared) (σ : L2.St) (H : Hp) (D : Ends) (x : Str) (u : Value) (first : Bool), Inv X pins σ H s → RelV (.str x) u → LS X W (cArms as x) D σ H →
    wpAny (model X.prog X.w) X.A (matchCases cases X.env u first) (SP X pins D) X.xe s := by
  induction h with
  | nil =>
    intro pins s σ H D x u first I rx ⟨en, sc, hc, m, C, r, k, f⟩
    exact wpAny_matchCases_nil ⟨σ, H, I, f.nx sc hc k σ H m r .refl⟩
  | @val z j p1 p2 body c r rs h hr ih =>
    intro pins s σ H D x u first I rx ⟨en, sc, hc, m, C, rr, k, f⟩
    refine wpAny_matchCases_cons (wpAny_matchPattern_Value (thn ((pe_str (X := X) (x := z) (j := j) (pos := p1)).run pins s σ H (fun v H' => v = .str z ∧ H' = H) I ⟨rfl, rfl⟩) fun y s1 ⟨v, H1, I1, rv, e1, e2⟩ => ?_))
    subst e1
    subst e2
    refine thn (op_eq pins s1 σ H1 (.str x) (.str z) u y (fun v H' => v = .bl (decide (V.str x = V.str z)) ∧ H' = H1) I1 rx rv ⟨rfl, rfl, rfl⟩) fun w s2 ⟨v2, H2, I2, rv2, e1, e2⟩ => ?_
    subst e2
    subst e1
    cases (show w = Value.bool (decide (V.str x = V.str z)) from rv2)
    refine wpAny_truthy_bool ?_
    have k : (if x = z then c C sc hc else cArms rs x C sc hc) := k
    by_cases e : x = z
    · rw [if_pos e] at k
      rw [if_pos (by rw [e]; exact decide_eq_true rfl)]
      exact wpAny_assignInOrder_none (h.p.run pins s2 σ H2 D I2 ⟨en, sc, hc, m, C, rr, k, f⟩)
    · rw [if_neg e] at k
      rw [if_neg (by rw [decide_eq_true_iff]; intro q; exact e (by cases q; rfl))]
      exact ih pins s2 σ H2 D x u false I2 rx ⟨en, sc, hc, m, C, rr, k, f⟩
  | @or2 z1 z2 j1 j2 p1 p2 p3 p4 p5 body c r rs h hr ih =>
    intro pins s σ H D x u first I rx ⟨en, sc, hc, m, C, rr, k, f⟩
    have k : (if x = z1 then c C sc hc else if x = z2 then c C sc hc else cArms rs x C sc hc) := k
    refine wpAny_matchCases_cons (wpAny_matchPattern_Or (wpAny_matchFirst_cons (pat_val I rx fun s1 I1 => ?_)))
    by_cases e : x = z1
    · rw [if_pos e] at k
      rw [if_pos e]
      exact wpAny_assignInOrder_none (h.p.run pins s1 σ H D I1 ⟨en, sc, hc, m, C, rr, k, f⟩)
    · rw [if_neg e] at k
      rw [if_neg e]
      refine wpAny_matchFirst_cons (pat_val I1 rx fun s2 I2 => ?_)
      by_cases e : x = z2
      · rw [if_pos e] at k
        rw [if_pos e]
        exact wpAny_assignInOrder_none (h.p.run pins s2 σ H D I2 ⟨en, sc, hc, m, C, rr, k, f⟩)
      · rw [if_neg e] at k
        rw [if_neg e]
        exact wpAny_matchFirst_nil (ih pins s2 σ H D x u false I2 rx ⟨en, sc, hc, m, C, rr, k, f⟩)
  | @any p body c r rs h hr ih =>
    intro pins s σ H D x u first I rx q
    exact wpAny_matchCases_cons (wpAny_matchPattern_Capture (wpAny_assignInOrder_none (h.p.run pins s σ H D I q)))
theorem cs_match {X : Cx} {W : WX} {e : Expr} {ce : CEx} {cases : List MatchCase} {as : List Arm} {pos : Pos} (h : CE X W e ce) (ha : Arms X W cases as) : CS X W (.Match e cases pos) (cMatch ce as) := by
  refine ⟨⟨fun pins s σ H D I ⟨en, sc, hc, m, C, r, k, f⟩ => ?_⟩⟩
  refine wpAny_Match (thn (h.p.run pins s σ H (fun v H1 => ∃ x, v = .str x ∧ LS X W (cArms as x) D σ H1) I ⟨en, sc, hc, m, C.xp, _, r, k, f.xp, fun d hc1 hp v H1 m1 x1 q1 => ?_⟩) fun u s1 ⟨v, H1, I1, rv, x, e1, q⟩ => ?_)
  · cases d <;> try exact hp.elim
    rename_i x
    unfold Rep at q1
    exact ⟨x, q1, en, sc, hc1, m1, C, r.call x1, hp, f.step x1.stp⟩
  · subst e1
    exact arms_run ha pins s1 σ H1 D x u true I1 rv q
section
variable {C : CEnds} {sc : List Sl} {hc : CH} {x z : Str} {c : CSx} {r : List Arm} {ce : CEx}
theorem e_Match {as : List Arm} : cMatch ce as C sc hc = ce C.xp sc hc fun d hc1 => match d with
  | .str x => cArms as x C sc hc1
  | _ => False := rfl
theorem e_arm1 : cArms ((some z, c) :: r) x C sc hc = if x = z then c C sc hc else cArms r x C sc hc := rfl
theorem e_arm2 : cArms ((none, c) :: r) x C sc hc = c C sc hc := rfl
theorem e_arm0 : cArms [] x C sc hc = C.nx sc hc := rfl
end
/-! ### zip of two lists -/
def zipD (xs ys : List D) : List D := List.zipWith (fun x y => D.tup [x, y]) xs ys
def zipP (ds : List D) (P : List D → CH → Prop) (hc : CH) : Prop := match ds with
  | [.lst xs, .lst ys] => P (zipD xs ys) hc
  | _ => False
def cZip (c1 c2 : CEx) : CIx := fun E sc hc P => cCons c1 (cCons c2 cNil) E sc hc fun ds hc1 => zipP ds P hc1
theorem ci_zip {X : Cx} {W : WX} {elts : List Expr} {kk : Nat} {tpos p pos : Pos} {e e2 : Expr} {c1 c2 : CEx} (hm : X.mg "zip" = none) (h1 : CE X W e c1) (h2 : CE X W e2 c2) (hg : Gl X "zip" := by rfl) (hs : starEach [e, e2] X.env = (false, eval e X.env) :: starEach [e2] X.env := by rfl) (hs2 : starEach [e2] X.env = (false, eval e2 X.env) :: starEach [] X.env := by rfl) (hpl : (backTo pos (starEach [e2] X.env)).any (·.1) = false := by rfl) :
    CI X W (.Tuple elts kk tpos) (.Call (.Name "zip" p) [e, e2] [] pos) (cZip c1 c2) := ⟨pi_wk (pi_zip hg hm (ca_cons h1 (ca_cons h2 ca_nil hs2) hs).p hs hpl) fun σ H R ⟨en, sc, hc, m, E, P, r, k, xo, fin⟩ =>
  ⟨en, sc, hc, m, E, fun ds hc1 => zipP ds P hc1, r, k, xo, fun ds hc1 pz vs H1 m1 x1 q => by
    have mu1 := (r.call x1).mu
    have pz : zipP ds P hc1 := pz
    unfold zipP at pz
    split at pz
    · rename_i xs ys _
      unfold RepL at q
      obtain ⟨v1, r1, rfl, qa, q⟩ := q
      unfold RepL at q
      obtain ⟨v2, r2, rfl, qb, q⟩ := q
      unfold RepL at q
      subst q
      unfold Rep at qa qb
      obtain ⟨a, us, rfl, na, ha, la⟩ := qa
      obtain ⟨b, ws, rfl, nb, hb, lb⟩ := qb
      refine ⟨a, b, us, ws, rfl, .of ha, .of hb, fin _ hc1 pz _ H1 m1 x1 fun H2 m2 mo s2 i => ⟨fun d ed => ?_, fun hl => ?_⟩⟩
      · unfold zipD at ed
        rw [List.getElem?_zipWith] at ed
        cases ex : xs[i]? with
        | none => rw [ex] at ed; cases ed
        | some x =>
          cases ey : ys[i]? with
          | none => rw [ex, ey] at ed; cases ed
          | some y =>
            rw [ex, ey] at ed
            cases ed
            obtain ⟨u, eu, ru⟩ := la.get ex
            obtain ⟨w, ew, rw'⟩ := lb.get ey
            have hqa := SqL.of (K := X.K) (s2.keep _ _ ha trivial na)
            have hqb := SqL.of (K := X.K) (s2.keep _ _ hb trivial nb)
            refine ⟨⟨us, ws, u, w, hqa, hqb, eu, ew⟩, fun x3 H3 ⟨T, u', w', e3, nT, eH, g1, g2⟩ => ?_⟩
            have t1 := g1 us hqa
            have t2 := g2 ws hqb
            rw [eu] at t1; cases t1
            rw [ew] at t2; cases t2
            subst e3
            subst eH
            exact ⟨same_upd nT, rep_tup mo nT (RepL.cons (Rep.mono mu1 s2 _ _ ru) (RepL.cons (Rep.mono mu1 s2 _ _ rw') RepL.nil))⟩
      · refine ⟨us, ws, .of (s2.keep _ _ ha trivial na), .of (s2.keep _ _ hb trivial nb), ?_⟩
        rw [← la.length, ← lb.length]
        unfold zipD at hl
        rw [List.length_zipWith] at hl
        omega
    · exact pz.elim⟩⟩
theorem e_Zip {c1 c2 : CEx} {E : XP} {sc : List Sl} {hc : CH} {P : List D → CH → Prop} : cZip c1 c2 E sc hc P = cCons c1 (cCons c2 cNil) E sc hc fun ds hc1 => zipP ds P hc1 := rfl
theorem o_zip {xs ys : List D} {hc : CH} {P : List D → CH → Prop} : zipP [.lst xs, .lst ys] P hc = P (zipD xs ys) hc := rfl
theorem zip_mem {xs ys : List D} {d : D} (h : d ∈ zipD xs ys) : ∃ x ∈ xs, ∃ y ∈ ys, d = .tup [x, y] := by
  obtain ⟨i, ed⟩ := List.mem_iff_getElem?.mp h
  unfold zipD at ed
  rw [List.getElem?_zipWith] at ed
  cases ex : xs[i]? with
  | none => rw [ex] at ed; cases ed
  | some x =>
    cases ey : ys[i]? with
    | none => rw [ex, ey] at ed; cases ed
    | some y =>
      rw [ex, ey] at ed
      cases ed
      exact ⟨x, List.mem_of_getElem? ex, y, List.mem_of_getElem? ey, rfl⟩
/-- x.extend(e), x an owned list, e a list -/
def cExt (i : Nat) (ce : CEx) : CSx := fun C sc hc => match lookO sc i with
  | some ds => ce C.xp sc hc fun d hc1 => match d with
    | .lst zs => ds.length + zs.length ≤ sizeLine ∧ C.nx (sc.set i (.own (ds ++ zs))) hc1
    | _ => False
  | none => False
section
variable {X : Cx} {W : WX} {e : Expr} {ce : CEx} {pos : Pos}
theorem cs_ext {x : Str} {px pa : Pos} (i : Nat) (he : CE X W e ce) (hN : X.N[i]? = some x := by rfl) (hv : Vis X.env.scope x := by first | exact Or.inl rfl | exact Or.inr (Or.inl rfl) | exact Or.inr (Or.inr rfl)) (hd : (x == ("__debug__" : Str)) = false := by decide) (hcd : (x == ("__classdict__" : Str)) = false := by decide)
    (hs : starEach [e] X.env = (false, eval e X.env) :: starEach [] X.env := by rfl)
    (hb : attributeBase (.Name x px) "extend" X.env (eval (.Name x px) X.env) = eval (.Name x px) X.env := by rfl) {pc : Pos}
    (hfew : ((backTo pc (starEach [e] X.env)).all (fun x => !x.1) && (backToKw pc (keywordEach [] X.env)).all (fun x => x.1.isSome)
      && decide ([e].length + ([] : List Keyword).length + (if ([] : List Keyword).isEmpty then 0 else 1) < 30)) = true := by rfl)
    (hl : (pa.endLine == pc.line) = true := by rfl)
    (hsw : swapsWith (.Call (.Attribute (.Name x px) "extend" pa) [e] [] pc) none pos.line X.env = pure false := by rfl) : CS X W (.Expr (.Call (.Attribute (.Name x px) "extend" pa) [e] [] pc) pos) (cExt i ce) :=
  ⟨ps_wk (ps_expr (pe_bm PySem.F.plainAttrs_list PySem.F.slot_list_extend PySem.F.type_list_extend mt_extend (pv i hN hv hd hcd) (pa_cons he.p pa_nil hs) hb hfew hl hs) hsw) fun D σ H ⟨en, sc, hc, m, C, r, k, f⟩ => by
    unfold cExt at k
    split at k
    case h_2 => exact k.elim
    rename_i ds e0
    have e' := lookO_get e0
    obtain ⟨p, vs, e1, ma, h0, h1, eH, q1⟩ := r.own i ds e'
    refine ⟨.ref p, e1, .inl ⟨rfl, vs, .of eH⟩, en, sc, hc, m, C.xp, _, r, k, f.xp, fun d hc1 pp v H1 m1 x1 q => ?_⟩
    have r1 := r.call x1
    have s1 := x1.stp
    cases d <;> try exact pp.elim
    rename_i zs
    have pp : ds.length + zs.length ≤ sizeLine ∧ C.nx (sc.set i (.own (ds ++ zs))) hc1 := pp
    unfold Rep at q
    obtain ⟨b, ws, rfl, nb, eb, lb⟩ := q
    obtain ⟨p2, vs2, e2, _, _, _, eH2, q2⟩ := r1.own i ds e'
    rw [e1] at e2; cases e2
    obtain ⟨r2, s2⟩ := r1.grown e' e1 (q2.append lb)
    exact ⟨p, b, vs2, ws, rfl, rfl, eH2, eb, by rw [← q2.length, ← lb.length]; exact pp.1, f.nx _ hc1 pp.2 _ _ m1 r2 (s1.trans s2)⟩⟩
end
theorem e_Ext {i : Nat} {ce : CEx} {C : CEnds} {sc : List Sl} {hc : CH} : cExt i ce C sc hc = match lookO sc i with
  | some ds => ce C.xp sc hc fun d hc1 => match d with
    | .lst zs => ds.length + zs.length ≤ sizeLine ∧ C.nx (sc.set i (.own (ds ++ zs))) hc1
    | _ => False
  | none => False := rfl
/-- x, y = e, [..], y's list its own -/
def cParO2 (i j : Nat) (ca : CEx) (cb : CAx) : CSx := fun C sc hc => ca C.xp sc hc fun d hc1 => cb C.xp sc hc1 fun ds hc2 => ds.length ≤ sizeLine ∧ C.nx ((sc.set i (.val d)).set j (.own ds)) hc2
section
variable {X : Cx} {W : WX} {ca : CEx} {cb : CAx} {pos : Pos}
theorem cs_parO2 {i j : Nat} {x y : Str} {a : Expr} {es : List Expr} {px py pt p3 : Pos} {kt k2 : Nat} {p2 : Pos} (hc : X.calm = true) (hN : X.N.Nodup) (ha : CE X W a ca) (hb : CA X W es cb) (hw : swappedStores [.Tuple [.Name x px, .Name y py] kt pt] (.Tuple [a, .List es p3] k2 p2) X.env = pure (some [x, y]) := by rfl) (hi : X.N[i]? = some x := by rfl) (hj : X.N[j]? = some y := by rfl) (hij : i ≠ j := by decide)
    (hx : X.env.scope.names.lookup x = some .local := by rfl) (hy : X.env.scope.names.lookup y = some .local := by rfl)
    (hs : swapsWithSole [.Tuple [.Name x px, .Name y py] kt pt] (.Tuple [a, .List es p3] k2 p2) pos.line X.env = pure false := by rfl)
    (h1 : starEach [a, .List es p3] X.env = (false, eval a X.env) :: starEach [.List es p3] X.env := by rfl) (h2 : starEach [.List es p3] X.env = (false, eval (.List es p3) X.env) :: starEach [] X.env := by rfl) : CS X W (.Assign [.Tuple [.Name x px, .Name y py] kt pt] (.Tuple [a, .List es p3] k2 p2) pos) (cParO2 i j ca cb) :=
  ⟨ps_wk (ps_par hc hN hi hj hij hx hy (pa_cons ha.p (pa_cons (pe_lst hb.p) pa_nil h2) h1) hw hs) fun D σ H ⟨en, sc, hc, m, C, r, k, f⟩ =>
    ⟨en, sc, hc, m, C.xp, _, r, k, f.xp, fun d hc1 p v H1 m1 x1 q1 => ⟨en, sc, hc1, m1, C.xp, _, r.call x1, p, f.xp, fun ds hc2 p2 vs H2 m2 x2 q2 => ⟨by rw [← q2.length]; exact p2.1, fun a n => by
      have r2 := (r.call x1).call x2
      obtain ⟨m3, r3, s3⟩ := (r2.put i (Rep.mono (r.call x1).mu x2.stp _ _ q1)).mine j n q2
      exact ⟨v, .ref a, rfl, f.nx _ hc2 p2.2 _ _ m3 r3 ((x1.stp.trans x2.stp).trans s3)⟩⟩⟩⟩⟩
end
theorem e_ParO2 {i j : Nat} {ca : CEx} {cb : CAx} {C : CEnds} {sc : List Sl} {hc : CH} : cParO2 i j ca cb C sc hc = ca C.xp sc hc fun d hc1 => cb C.xp sc hc1 fun ds hc2 => ds.length ≤ sizeLine ∧ C.nx ((sc.set i (.val d)).set j (.own ds)) hc2 := rfl
/-! ### list(range(..)) -/
def cLRg1 (ca : CEx) : CEx := fun E sc hc P => ca E sc hc fun d hc1 => match d with
  | .int n => (-(2 ^ 62) ≤ n ∧ n ≤ 16777216) ∧ P (.lst (rngD 0 n)) hc1
  | _ => False
def cLRg2 (ca cb : CEx) : CEx := fun E sc hc P => ca E sc hc fun d hc1 => cb E sc hc1 fun d2 hc2 => match d, d2 with
  | .int a, .int b => (-16777216 ≤ a ∧ a ≤ 16777216 ∧ -16777216 ≤ b ∧ b ≤ 16777216 ∧ b - a ≤ 16777216) ∧ P (.lst (rngD a b)) hc2
  | _, _ => False
theorem repL_rng {K : PySem.W.Frag} {H : Hp} {m : Ms} {a : Int} : ∀ l : List Nat, RepL K H m (l.map fun k => D.int (a + (k : Nat))) (l.map fun k => V.int (a + (k : Nat)))
  | [] => RepL.nil
  | x :: l => RepL.cons rep_int (repL_rng l)
section
variable {X : Cx} {W : WX} {e e2 : Expr} {ca cb : CEx} {p p2 pos pos2 : Pos}
theorem ce_lrg1 (hc : X.calm = true) (hl : X.mg "list" = none) (hr : X.mg "range" = none) (h : CE X W e ca) (hg : Gl X "list" := by rfl) (hg2 : Gl X "range" := by rfl) (na : starEach [e] X.env = (false, eval e X.env) :: starEach [] X.env := by rfl)
    (nb : starEach [.Call (.Name "range" p2) [e] [] pos2] X.env = (false, eval (.Call (.Name "range" p2) [e] [] pos2) X.env) :: starEach [] X.env := by rfl) : CE X W (.Call (.Name "list" p) [.Call (.Name "range" p2) [e] [] pos2] [] pos) (cLRg1 ca) :=
  ⟨pe_wk (pe_listRg hc hg hl (prg_1 hg2 hr h.p na) nb) fun σ H Q ⟨en, sc, hc, m, E, P, r, k, xo, fin⟩ =>
    ⟨en, sc, hc, m, E, _, r, k, xo, fun d hc1 pp v H1 m1 x1 q => by
      cases d <;> try exact pp.elim
      rename_i n
      unfold Rep at q
      have pp : (-(2 ^ 62) ≤ n ∧ n ≤ 16777216) ∧ P (.lst (rngD 0 n)) hc1 := pp
      exact ⟨n, q, ⟨by decide, by decide, pp.1.1, by omega, by omega⟩, fun a na => fin _ hc1 pp.2 _ _ m1 (x1.trans (Ex.same x1.toWd (same_upd na))) (rep_lst (r.call x1).mu na (repL_rng _))⟩⟩⟩
theorem ce_lrg2 (hc : X.calm = true) (hl : X.mg "list" = none) (hr : X.mg "range" = none) (h : CE X W e ca) (h2 : CE X W e2 cb) (hg : Gl X "list" := by rfl) (hg2 : Gl X "range" := by rfl) (na : starEach [e, e2] X.env = (false, eval e X.env) :: starEach [e2] X.env := by rfl) (nb : starEach [e2] X.env = (false, eval e2 X.env) :: starEach [] X.env := by rfl)
    (hp : (backTo pos2 (starEach [e2] X.env)).any (·.1) = false := by rfl) (nc : starEach [.Call (.Name "range" p2) [e, e2] [] pos2] X.env = (false, eval (.Call (.Name "range" p2) [e, e2] [] pos2) X.env) :: starEach [] X.env := by rfl) : CE X W (.Call (.Name "list" p) [.Call (.Name "range" p2) [e, e2] [] pos2] [] pos) (cLRg2 ca cb) :=
  ⟨pe_wk (pe_listRg hc hg hl (prg_2 hg2 hr h.p h2.p na nb hp) nc) fun σ H Q ⟨en, sc, hc, m, E, P, r, k, xo, fin⟩ =>
    ⟨en, sc, hc, m, E, _, r, k, xo, fun d hc1 pp v H1 m1 x1 q => ⟨en, sc, hc1, m1, E, _, r.call x1, pp, xo, fun d2 hc2 pp v2 H2 m2 x2 q2 => by
      cases d <;> cases d2 <;> try exact pp.elim
      rename_i a _ b
      unfold Rep at q q2
      have pp : (-16777216 ≤ a ∧ a ≤ 16777216 ∧ -16777216 ≤ b ∧ b ≤ 16777216 ∧ b - a ≤ 16777216) ∧ P (.lst (rngD a b)) hc2 := pp
      have x12 := x1.trans x2
      exact ⟨a, b, q, q2, ⟨by omega, by omega, by omega, by omega, by omega⟩, fun c na => fin _ hc2 pp.2 _ _ m2 (x12.trans (Ex.same x12.toWd (same_upd na))) (rep_lst ((r.call x1).call x2).mu na (repL_rng _))⟩⟩⟩⟩
end
theorem e_LRg1 {ca : CEx} {E : XP} {sc : List Sl} {hc : CH} {P : D → CH → Prop} : cLRg1 ca E sc hc P = ca E sc hc fun d hc1 => match d with
  | .int n => (-(2 ^ 62) ≤ n ∧ n ≤ 16777216) ∧ P (.lst (rngD 0 n)) hc1
  | _ => False := rfl
theorem e_LRg2 {ca cb : CEx} {E : XP} {sc : List Sl} {hc : CH} {P : D → CH → Prop} : cLRg2 ca cb E sc hc P = ca E sc hc fun d hc1 => cb E sc hc1 fun d2 hc2 => match d, d2 with
  | .int a, .int b => (-16777216 ≤ a ∧ a ≤ 16777216 ∧ -16777216 ≤ b ∧ b ≤ 16777216 ∧ b - a ≤ 16777216) ∧ P (.lst (rngD a b)) hc2
  | _, _ => False := rfl
/-- the lowest bit set -/
theorem or_one (x : Int) : Builtin.bitOr x 1 = x + 1 - x % 2 := by rw [bitOr_and, bitAnd_m1]
end Mn

namespace Mn
open PySem PySem.Spec PyProof.Rows L2
/-! ### rstrip -/
def cRs (ca cb : CEx) : CEx := fun E sc hc P => ca E sc hc fun d hc1 => match d with
  | .str a => cb E sc hc1 fun d2 hc2 => match d2 with
    | .str b => a.length ≤ sizeLine ∧ P (.str (Txt.rstripChars a b)) hc2
    | _ => False
  | _ => False
section
variable {X : Cx} {W : WX} {e e2 : Expr} {ca cb : CEx} {apos pos : Pos}
theorem ce_rstrip (h : CE X W e ca) (h2 : CE X W e2 cb) (hs : starEach [e2] X.env = (false, eval e2 X.env) :: starEach [] X.env := by rfl)
    (hb : attributeBase e "rstrip" X.env (eval e X.env) = eval e X.env := by rfl)
    (hfew : ((backTo pos (starEach [e2] X.env)).all (fun x => !x.1) && (backToKw pos (keywordEach [] X.env)).all (fun x => x.1.isSome)
      && decide ([e2].length + ([] : List Keyword).length + (if ([] : List Keyword).isEmpty then 0 else 1) < 30)) = true := by rfl)
    (hl : (apos.endLine == pos.line) = true := by rfl) : CE X W (.Call (.Attribute e "rstrip" apos) [e2] [] pos) (cRs ca cb) :=
  ⟨pe_wk (pe_bm PySem.F.plainAttrs_str PySem.F.slot_str_rstrip PySem.F.type_str_rstrip mt_rstripChars h.p (pa_cons h2.p pa_nil hs) hb hfew hl hs) fun σ H Q ⟨en, sc, hc, m, E, P, r, k, xo, fin⟩ =>
    ⟨en, sc, hc, m, E, _, r, k, xo, fun d hc1 p v H1 m1 x1 q => by
      cases d <;> try exact p.elim
      rename_i a
      unfold Rep at q
      subst q
      exact ⟨rfl, en, sc, hc1, m1, E, _, r.call x1, p, xo, fun d2 hc2 p2 v2 H2 m2 x2 q2 => by
        cases d2 <;> try exact p2.elim
        rename_i b
        unfold Rep at q2
        subst q2
        have p2 : a.length ≤ sizeLine ∧ P (.str (Txt.rstripChars a b)) hc2 := p2
        exact ⟨a, b, rfl, rfl, p2.1, fin _ hc2 p2.2 _ H2 m2 (x1.trans x2) rep_str⟩⟩⟩⟩
end
theorem e_Rs {ca cb : CEx} {E : XP} {sc : List Sl} {hc : CH} {P : D → CH → Prop} : cRs ca cb E sc hc P = ca E sc hc fun d hc1 => match d with
  | .str a => cb E sc hc1 fun d2 hc2 => match d2 with
    | .str b => a.length ≤ sizeLine ∧ P (.str (Txt.rstripChars a b)) hc2
    | _ => False
  | _ => False := rfl
/-! ### the zeros at a number's end -/
theorem zeros_at : ∀ (f n : Nat), 0 < n → n ≤ f → ∃ z m, n = m * 10 ^ z ∧ m % 10 ≠ 0 ∧ (((Nat.toDigits 10 n).map Char.toNat).reverse.takeWhile (fun k => k == 48)).length = z
  | 0, n, h, g => by omega
  | f + 1, n, h, g => by
    by_cases s : n < 10
    · refine ⟨0, n, by rw [Nat.pow_zero, Nat.mul_one], by omega, ?_⟩
      rw [Nat.toDigits_of_lt_base s, List.map_singleton, List.reverse_singleton, List.takeWhile_cons, Nat.toNat_digitChar_of_lt_ten s, if_neg (by simp; omega)]
      rfl
    · have e := Nat.toDigits_of_base_le (b := 10) (n := n) (by decide) (by omega)
      have r := Nat.toNat_digitChar_of_lt_ten (n := n % 10) (by omega)
      by_cases t : n % 10 = 0
      · obtain ⟨z, m, h1, h2, h3⟩ := zeros_at f (n / 10) (by omega) (by omega)
        refine ⟨z + 1, m, ?_, h2, ?_⟩
        · rw [Nat.pow_succ, ← Nat.mul_assoc, ← h1]; omega
        · rw [e, List.map_append, List.reverse_append, List.map_singleton, List.reverse_singleton, List.singleton_append, List.takeWhile_cons, r, t, if_pos (by decide), List.length_cons, h3]
      · refine ⟨0, n, by rw [Nat.pow_zero, Nat.mul_one], t, ?_⟩
        rw [e, List.map_append, List.reverse_append, List.map_singleton, List.reverse_singleton, List.singleton_append, List.takeWhile_cons, r, if_neg (by simp; omega)]
        rfl
theorem rstrip_len (x : Str) : (Txt.rstripChars x "0").length = x.length - ((x.cps.toList).reverse.takeWhile (fun k => k == 48)).length := by
  have hp : (Str.ofString "0").cps.contains = fun k => k == 48 := by
    funext k
    have : (Str.ofString "0").cps = #[48] := by decide
    rw [this]
    simp
    rfl
  unfold Txt.rstripChars Txt.stripBy stripSame stripped
  rw [hp]
  have lo : stripLo (fun k => k == 48) false x = 0 := rfl
  have hi : stripHi (fun k => k == 48) true x 0 = x.length - ((x.cps.toList).reverse.takeWhile (fun k => k == 48)).length := rfl
  rw [lo, hi]
  split
  · next h =>
    rw [Bool.and_eq_true] at h
    have := h.2
    rw [beq_iff_eq] at this
    omega
  · unfold PySem.Builtin.Str.strSub
    show (x.cps.extract 0 _).size = _
    rw [Array.size_extract]
    have : x.cps.size = x.length := rfl
    omega
theorem text_zeros {d : Int} (h : 0 < d) : ∃ (z : Nat) (m : Int), d = m * 10 ^ z ∧ m % 10 ≠ 0 ∧ (Txt.rstripChars (Str.ofString (toString d)) "0").length + z = (Str.ofString (toString d)).length := by
  obtain ⟨n, rfl⟩ := Int.eq_ofNat_of_zero_le (Int.le_of_lt h)
  obtain ⟨z, m, h1, h2, h3⟩ := zeros_at n n (by omega) (Nat.le_refl _)
  have e : (Str.ofString (toString (n : Int))).cps.toList = (Nat.toDigits 10 n).map Char.toNat := by
    rw [Str.ofString_eq_toList]
    show List.map Char.toNat (Nat.repr n).toList = _
    simp [Nat.repr]
  refine ⟨z, m, ?_, by omega, ?_⟩
  · rw [h1]
    rw [Int.natCast_mul, Int.natCast_pow]
    rfl
  · rw [rstrip_len, e, h3]
    have le := List.takeWhile_prefix (fun k => k == 48) (l := ((Nat.toDigits 10 n).map Char.toNat).reverse)
    have l2 := le.length_le
    rw [h3, List.length_reverse, ← e] at l2
    have : (Str.ofString (toString (n : Int))).length = (Str.ofString (toString (n : Int))).cps.toList.length := by simp [Str.length]
    omega
end Mn

namespace Mn
open PySem PySem.Spec PyProof.Rows L2
/-! ### range downwards: range(i, j, -1) -/
def rngN (lo : Int) (n : Nat) : List D := (List.range n).map fun k : Nat => D.int (lo + (k : Int) * -1)
theorem rngN_yields {K : PySem.W.Frag} {H : Hp} {m : Ms} (lo : Int) (n : Nat) : Yields K (Itc lo (-1) n) (rngN lo n) H m := fun H2 m2 mo s2 i => by
  refine ⟨fun d e => ?_, fun hl => ?_⟩
  · unfold rngN at e
    rw [List.getElem?_map] at e
    by_cases lt : i < n
    · rw [List.getElem?_range lt] at e
      cases e
      refine ⟨lt, fun x H3 y => ?_⟩
      obtain ⟨e1, e2⟩ := y
      subst e1; subst e2
      exact ⟨.refl _, rep_int⟩
    · rw [List.getElem?_eq_none (by rw [List.length_range]; omega)] at e
      cases e
  · unfold rngN at hl
    rw [List.length_map, List.length_range] at hl
    exact hl
theorem rngN_at {lo : Int} {n j : Nat} {d : D} (h : (rngN lo n)[j]? = some d) : d = .int (lo - j) ∧ j < n := by
  unfold rngN at h
  rw [List.getElem?_map] at h
  by_cases lt : j < n
  · rw [List.getElem?_range lt] at h
    cases h
    refine ⟨?_, lt⟩
    exact congrArg D.int (show lo + (j : Int) * -1 = lo - j by omega)
  · rw [List.getElem?_eq_none (by rw [List.length_range]; omega)] at h
    cases h
theorem rngN_len {lo : Int} {n : Nat} : (rngN lo n).length = n := by
  unfold rngN
  rw [List.length_map, List.length_range]
def cR3 (ca : CAx) : CIx := fun E sc hc P => ca E sc hc fun ds hc1 => match ds with | [.int i, .int j, .int c] => (c = -1 ∧ i.natAbs < 2 ^ 60 ∧ j.natAbs < 2 ^ 60) ∧ P (rngN i (i - j).toNat) hc1 | _ => False
section
variable {X : Cx} {W : WX} {tg e : Expr} {ca : CAx} {pos : Pos}
theorem ci_r3 {e2 e3 : Expr} {p2 : Pos} (hm : X.mg "range" = none) (h : CA X W [e, e2, e3] ca) (hg : Gl X "range" := by rfl)
    (hs : starEach [e, e2, e3] X.env = (false, eval e X.env) :: starEach [e2, e3] X.env := by rfl) (hpl : (backTo pos (starEach [e2, e3] X.env)).any (·.1) = false := by rfl) :
    CI X W tg (.Call (.Name "range" p2) [e, e2, e3] [] pos) (cR3 ca) := ⟨pi_wk (pi_range3 hg hm h.p hs hpl) fun σ H R ⟨en, sc, hc, m, E, P, r, k, xo, fin⟩ =>
  ⟨en, sc, hc, m, E, _, r, k, xo, fun ds hc1 p vs H1 m1 x1 q => by
    split at p
    · unfold RepL at q
      obtain ⟨v, _, rfl, q1, q⟩ := q
      unfold RepL at q
      obtain ⟨v2, _, rfl, q2, q⟩ := q
      unfold RepL at q
      obtain ⟨v3, _, rfl, q3, q⟩ := q
      unfold RepL at q; unfold Rep at q1 q2 q3
      subst q; subst q1; subst q2; subst q3
      obtain ⟨⟨rfl, b1, b2⟩, p⟩ := p
      exact ⟨_, _, _, _, rfl, RgC.neg (by omega) (by omega) (by omega) (by omega), fin _ hc1 p _ H1 m1 x1 (rngN_yields _ _)⟩
    · exact p.elim⟩⟩
end
theorem e_R3 {ca : CAx} {E : XP} {sc : List Sl} {hc : CH} {P : List D → CH → Prop} : cR3 ca E sc hc P = ca E sc hc fun ds hc1 => match ds with | [.int i, .int j, .int c] => (c = -1 ∧ i.natAbs < 2 ^ 60 ∧ j.natAbs < 2 ^ 60) ∧ P (rngN i (i - j).toNat) hc1 | _ => False := rfl
end Mn

namespace Mn
open PySem PySem.Spec PyProof.Rows L2
/-! ### enumerate of a tuple or a list -/
set_option maxHeartbeats 1000000 in
theorem enum_made {z : Value} {ob : Obj} {Hq : Heap → Prop} (B : Begins z ob Hq) :
    Meets (Builtin.«enumerate.__new__» ⟨[.type "enumerate", z], []⟩) (fun _ R s => Hq s.heap ∧
      R (.ok (.ret (.ref (s.heap.push ob).objs.size))) { s with heap := (s.heap.push ob).push { cls := .type "enumerate", data := .fields #[.none, .bool false, .ref s.heap.objs.size, rawInt 0, .none, .none] } }) :=
  .of_wp fun prog w A R s y => by
    obtain ⟨hp, g, d, tk, os⟩ := s
    obtain ⟨y1, y⟩ := y
    have hsub := sub_enumerate
    have go : ∀ {A2 : Around} {E2 : Value → Shared → Prop} {Q2 : Value → Shared → Prop}, Q2 (.ref hp.objs.size) ⟨hp.push ob, g, d, tk, os⟩ → wpAny (model prog w) A2 (pyIter z) Q2 E2 ⟨hp, g, d, tk, os⟩ := fun q => B.iter prog w _ _ ⟨hp, g, d, tk, os⟩ _ y1 q
    wp_walk using go
    refine wpAny_stack_any fun st => wpAny_pure ?_
    split
    · rename_i cl _ _ _ _ _
      cases (cl == Value.type "enumerate") <;> (wp_walk using go; exact ⟨_, rfl, y⟩)
    · wp_walk using go
      exact ⟨_, rfl, y⟩
theorem enum_call {P : Program} {w : World} {A : Around} {E : Value → Shared → Prop} {s : Shared} {z : Value} {ob : Obj} {Hq : Heap → Prop} {Q : Value → Shared → Prop} (B : Begins z ob Hq) (y1 : Hq s.heap)
    (y : ∀ h2, IsEnum h2 (s.heap.objs.size + 1) s.heap.objs.size 0 .none → h2.get? s.heap.objs.size = some ob → (∀ b o, s.heap.get? b = some o → h2.get? b = some o) → Q (.ref (s.heap.objs.size + 1)) { s with heap := h2 }) :
    wpAny (model P w) A (call (.type "enumerate") [z]) Q E s := by
  refine callType_new F.called_enumerate (by decide) (F.typeCall_enumerate_1 _) (F.newCall_enumerate_1 _) (fun x => F.args_object_init_2 x _) F.entry_enumerate_new (enum_made B) ⟨y1, ?_⟩
  have sz : (s.heap.push ob).objs.size = s.heap.objs.size + 1 := Heap.size_push ..
  show _ ∧ _
  rw [sz]
  have ie : IsEnum ((s.heap.push ob).push { cls := .type "enumerate", data := .fields #[.none, .bool false, .ref s.heap.objs.size, rawInt 0, .none, .none] }) (s.heap.objs.size + 1) s.heap.objs.size 0 .none := by
    have := Heap.get?_push_size (s.heap.push ob) (o := { cls := .type "enumerate", data := .fields #[.none, .bool false, .ref s.heap.objs.size, rawInt 0, .none, .none] }) rfl
    rw [sz] at this
    exact this
  exact ⟨⟨_, ie, rfl⟩, y _ ie (Heap.get?_push_of_some _ (Heap.get?_push_size _ B.free)) fun b o x => Heap.get?_push_of_some _ (Heap.get?_push_of_some _ x)⟩
/-- the tuple at a, each item in a new pair -/
def IteT (K : PySem.W.Frag) (a : Addr) : It :=
  ⟨fun i H => ∃ (us : List V) (u : V), SqT K H a us ∧ us[i]? = some u, fun i H v H2 => ∃ N u, v = .ref N ∧ H N = none ∧ H2 = upd H N (.tup [.int (i : Nat), u]) ∧ ∀ us, SqT K H a us → us[i]? = some u, fun i H => ∃ us : List V, SqT K H a us ∧ us.length ≤ i⟩
theorem turn_enT {P : Program} {w : World} {K : PySem.W.Frag} {elts : List Expr} {kk : Nat} {tpos : Pos} (a e it : Addr) (nai : a ≠ it) (nae : a ≠ e) :
    Turn P w K (.Tuple elts kk tpos) (IteT K a) [e, it] e (fun i h => (∃ old, IsEnum h e it ((i : Nat) : Int) old) ∧ h.IsTupleIter it a i ∧ e ≠ it) where
  mem := List.mem_cons_self ..
  obj := fun i h st b hb => by
    obtain ⟨⟨old, ie⟩, ⟨o, ho, hcl, hdt⟩, _⟩ := st
    rcases List.mem_cons.mp hb with rfl | hb
    · exact ⟨_, ie, fun v q => nomatch q⟩
    · cases List.mem_singleton.mp hb
      exact ⟨o, ho, fun v q => by rw [hdt] at q; cases q⟩
  keep := fun i h h2 st k => by
    obtain ⟨⟨old, ie⟩, hi, ne⟩ := st
    exact ⟨⟨old, k e (List.mem_cons_self ..) _ ie⟩, hi.at fun o q => k it (List.mem_cons_of_mem _ (List.mem_singleton_self _)) o q, ne⟩
  item := by
    intro X eP ew eK cal i pins s σ H E I apart st gd
    subst eP ew eK
    obtain ⟨⟨old, ie⟩, hit, ne⟩ := st
    obtain ⟨us, u, hq, hu⟩ := gd
    obtain ⟨its, rv, p, hz⟩ := I.tuple hq
    obtain ⟨y, hy, ry⟩ := rv.get hu
    have le : e < s.heap.objs.size := Heap.lt_size ie
    have li : it < s.heap.objs.size := by obtain ⟨_, q, _⟩ := hit; exact Heap.lt_size q
    have tup : s.heap.IsTuple a its.toArray := p
    have D := Draws.tuple (prog := X.prog) (w := X.w) (A := X.A.in1) (I.ok.hd cal) it a nai its.toArray
    have il : i < its.toArray.size := by
      have := (List.getElem?_eq_some_iff.mp hy).1
      simpa using this
    refine wpAny_pyNext_enum_itemD D ie ⟨hit, tup⟩ il ne ?_ fun x h2 tk hx out st2 hN hsz hk => ?_
    · intro q
      rcases List.mem_cons.mp q with q | q
      · exact ne q
      · exact nae (List.mem_singleton.mp q).symm
    obtain rfl : x = y := by
      have hx : its.toArray[i]? = some x := hx
      rw [List.getElem?_toArray, hy] at hx
      exact (Option.some.inj hx).symm
    refine ⟨_, rfl, wpAny_letOwnedTupleGo_enum (s := { s with heap := h2, toks := tk + 1 }) out fun h3 ie3 sb => ?_⟩
    have hN3 : h3.get? s.heap.objs.size = some { cls := .type "tuple", data := .seq #[.int i tk, x] } := (sb.2 _ (Nat.ne_of_gt le)).trans hN
    have new : ObjOk X.prog X.w (upd H s.heap.objs.size (.tup [.int (i : Nat), u])) h3 s.heap.objs.size (.tup [.int (i : Nat), u]) :=
      ⟨show 2 ≤ sizeLine by decide, [.int i tk, x], .cons ⟨_, rfl⟩ (.cons ry .nil), ⟨_, hN3, rfl, _, rfl⟩⟩
    have I1 : Inv X pins σ (upd H s.heap.objs.size (.tup [.int (i : Nat), u])) { s with heap := h3, toks := tk + 1 } :=
      I.turnedNew (t' := tk + 1) (ch := [e, it]) (fun b ob hb q => (sb.2 b (fun z => hb (z ▸ List.mem_cons_self ..))).trans (hk b ob (fun z => hb (z ▸ List.mem_cons_self ..)) (fun z => hb (z ▸ List.mem_cons_of_mem _ (List.mem_singleton_self _))) q)) apart (Nat.le_refl _) new
    have sit := st2.1.at fun o q => (sb.2 it (Ne.symm ne)).trans q
    refine ⟨.ref s.heap.objs.size, _, I1, rfl, ⟨_, u, rfl, I.hok.fresh (Nat.le_refl _), rfl, fun ys hys => by rw [I.tuple_inj hys hq]; exact hu⟩, ⟨⟨x, ?_⟩, sit, ne⟩, fun b hb => ?_⟩
    · rw [show ((i + 1 : Nat) : Int) = (i : Int) + 1 by omega]
      exact ie3
    · have lb : b < s.heap.objs.size := by
        rcases List.mem_cons.mp hb with rfl | hb
        · exact le
        · cases List.mem_singleton.mp hb
          exact li
      exact (upd_ne (Nat.ne_of_lt lb)).trans (apart b hb).1
  done := by
    intro X eP ew eK cal i pins s σ H E I apart st gd
    subst eP ew eK
    obtain ⟨⟨old, ie⟩, hit, ne⟩ := st
    obtain ⟨us, hq, hu⟩ := gd
    obtain ⟨its, rv, p, hz⟩ := I.tuple hq
    have tup : s.heap.IsTuple a its.toArray := p
    obtain ⟨f0, f1, f2, f3, f4, f5⟩ := apart it (List.mem_cons_of_mem _ (List.mem_singleton_self _))
    have ll := rv.length
    have hT : s.TypeIs (.ref e) "enumerate" := ⟨_, ie, rfl⟩
    unfold pyNext
    refine wpAny_bind (wpAny_attempt (wpAny_callSpecial?_slot (name := Str.ofString "__next__") hT F.slot_enumerate_next
      (wpAny_call_entry F.slot_enumerate_next hT F.entry_enumerate_next ?_ (F.args_enumerate_next_1 _))))
    show wpAny _ _ (field (.ref e) 2 >>= _) _ _ _
    refine wpAny_bind (wpAny_field ie rfl (x := .ref it) rfl ?_)
    refine wpAny_bind (wpAny_nextOf_tuple_end (A := X.A.in1) (I.ok.hd cal) hit tup (by rw [List.getElem?_toArray]; exact List.getElem?_eq_none (by omega)) fun h2 x eb hx => ?_)
    obtain ⟨o, ho, hcl⟩ := hx
    refine wpAny_bind (wpAny_isInstance (T := "StopIteration") (b := true) ⟨o, ho, hcl⟩ isSubtype_stop ?_)
    exact wpAny_pure ⟨rfl, I.turned (t' := s.toks) (fun b o hb q => eb b o hb q) f0 f1 f3 f4 f5⟩
  self := fun A i s Q E st y => by
    obtain ⟨⟨_, ie⟩, _⟩ := st
    exact wpAny_pyIter_enum ie y
def iEnU (K : PySem.W.Frag) (ta : TA) : TI := fun σ H R => ta σ H fun vs H1 => ∃ a, vs = [.ref a] ∧ ((∃ xs, SqL K H1 a xs ∧ R (Ite K a) H1) ∨ (∃ xs, SqT K H1 a xs ∧ R (IteT K a) H1))
theorem pi_enU {X : Cx} {e : Expr} {ta : TA} {p pos tpos : Pos} {elts : List Expr} {kk : Nat} (hg : Gl X "enumerate") (hm : X.mg "enumerate" = none) (ha : PA X [e] ta) (hs : starEach [e] X.env = [(false, eval e X.env)] := by rfl) :
    PI X (.Tuple elts kk tpos) (.Call (.Name "enumerate" p) [e] [] pos) (iEnU X.K ta) := by
  refine ⟨fun pins s σ H R I y => ?_⟩
  refine Call_ (ld_blt I hg hm boot_enumerate (PyProof.Rows.callWith_type1 (thn (ha.run pos pins s σ H _ I y) fun us s1 ⟨vs, H1, I1, r1, q1⟩ => ?_) hs rfl))
  obtain ⟨a, ev, q⟩ := q1
  subst ev
  cases r1 with
  | cons r rr =>
    cases rr
    cases r
    have ap : ∀ b ∈ [s1.heap.objs.size + 1, s1.heap.objs.size], s1.heap.objs.size ≤ b := fun b hb => by
      rcases List.mem_cons.mp hb with rfl | hb
      · exact Nat.le_add_right _ _
      · cases List.mem_singleton.mp hb
        exact Nat.le_refl _
    rcases q with ⟨xs, hq, q⟩ | ⟨xs, hq, q⟩
    · obtain ⟨its, rv, pl, hz⟩ := I1.list hq
      have pl := pl.isList
      refine enum_call (begins_list a its.toArray) pl fun h2 ie hit hk => wpAny_pyIter_enum ie ?_
      have I2 : Inv X pins σ H1 { s1 with heap := h2 } := I1.kept (t' := s1.toks) hk
      exact ⟨s1.heap.objs.size + 1, [s1.heap.objs.size + 1, s1.heap.objs.size], _, _, H1, rfl, I2, turn_enum a (s1.heap.objs.size + 1) s1.heap.objs.size, ⟨⟨.none, ie⟩, ⟨_, hit, rfl, rfl⟩, Nat.succ_ne_self _⟩, fun b hb => I1.fpOk (ap b hb) (I1.hok.fresh (ap b hb)), q⟩
    · obtain ⟨its, rv, pl, hz⟩ := I1.tuple hq
      have tup : s1.heap.IsTuple a its.toArray := pl
      have la : a < s1.heap.objs.size := by obtain ⟨_, z, _⟩ := tup; exact Heap.lt_size z
      refine enum_call (begins_tuple a its.toArray) tup fun h2 ie hit hk => wpAny_pyIter_enum ie ?_
      have I2 : Inv X pins σ H1 { s1 with heap := h2 } := I1.kept (t' := s1.toks) hk
      exact ⟨s1.heap.objs.size + 1, [s1.heap.objs.size + 1, s1.heap.objs.size], _, _, H1, rfl, I2, turn_enT a (s1.heap.objs.size + 1) s1.heap.objs.size (Nat.ne_of_lt la) (Nat.ne_of_lt (Nat.lt_succ_of_lt la)), ⟨⟨.none, ie⟩, ⟨_, hit, rfl, rfl⟩, Nat.succ_ne_self _⟩, fun b hb => I1.fpOk (ap b hb) (I1.hok.fresh (ap b hb)), q⟩
def enuL (xs : List D) : List D := xs.mapIdx fun i x => D.tup [.int (i : Nat), x]
theorem enu_at {xs : List D} {i : Nat} {d : D} (h : (enuL xs)[i]? = some d) : ∃ x, xs[i]? = some x ∧ d = .tup [.int (i : Nat), x] := by
  unfold enuL at h
  rw [List.getElem?_mapIdx] at h
  cases ex : xs[i]? with
  | none => rw [ex] at h; cases h
  | some x => rw [ex] at h; cases h; exact ⟨x, rfl, rfl⟩
theorem enu_len {xs : List D} : (enuL xs).length = xs.length := List.length_mapIdx
def enuP (ds : List D) (P : List D → CH → Prop) (hc : CH) : Prop := match ds with
  | [.lst xs] => P (enuL xs) hc
  | [.tup xs] => P (enuL xs) hc
  | _ => False
def cEnum (c1 : CEx) : CIx := fun E sc hc P => cCons c1 cNil E sc hc fun ds hc1 => enuP ds P hc1
theorem ci_enum {X : Cx} {W : WX} {elts : List Expr} {kk : Nat} {tpos p pos : Pos} {e : Expr} {c1 : CEx} (hm : X.mg "enumerate" = none) (h1 : CE X W e c1) (hg : Gl X "enumerate" := by rfl) (hs : starEach [e] X.env = (false, eval e X.env) :: starEach [] X.env := by rfl) (hs1 : starEach [e] X.env = [(false, eval e X.env)] := by rfl) :
    CI X W (.Tuple elts kk tpos) (.Call (.Name "enumerate" p) [e] [] pos) (cEnum c1) := ⟨pi_wk (pi_enU hg hm (ca_cons h1 ca_nil hs).p hs1) fun σ H R ⟨en, sc, hc, m, E, P, r, k, xo, fin⟩ =>
  ⟨en, sc, hc, m, E, fun ds hc1 => enuP ds P hc1, r, k, xo, fun ds hc1 pz vs H1 m1 x1 q => by
    have mu1 := (r.call x1).mu
    have pz : enuP ds P hc1 := pz
    unfold enuP at pz
    split at pz
    · rename_i xs
      unfold RepL at q
      obtain ⟨v1, r1, rfl, qa, q⟩ := q
      unfold RepL at q
      subst q
      unfold Rep at qa
      obtain ⟨a, us, rfl, na, ha, la⟩ := qa
      refine ⟨a, rfl, .inl ⟨us, .of ha, fin _ hc1 pz _ H1 m1 x1 fun H2 m2 mo s2 i => ⟨fun d ed => ?_, fun hl => ?_⟩⟩⟩
      · obtain ⟨x, ex, rfl⟩ := enu_at ed
        obtain ⟨u, eu, ru⟩ := la.get ex
        have hqa := SqL.of (K := X.K) (s2.keep _ _ ha trivial na)
        refine ⟨⟨us, u, hqa, eu⟩, fun x3 H3 ⟨T, u', e3, nT, eH, g1⟩ => ?_⟩
        have t1 := g1 us hqa
        rw [eu] at t1; cases t1
        subst e3
        subst eH
        exact ⟨same_upd nT, rep_tup mo nT (RepL.cons rep_int (RepL.cons (Rep.mono mu1 s2 _ _ ru) RepL.nil))⟩
      · refine ⟨us, .of (s2.keep _ _ ha trivial na), ?_⟩
        rw [← la.length]
        rw [enu_len] at hl
        exact hl
    · rename_i xs
      unfold RepL at q
      obtain ⟨v1, r1, rfl, qa, q⟩ := q
      unfold RepL at q
      subst q
      unfold Rep at qa
      obtain ⟨a, us, rfl, ha, la⟩ := qa
      refine ⟨a, rfl, .inr ⟨us, ha, fin _ hc1 pz _ H1 m1 x1 fun H2 m2 mo s2 i => ⟨fun d ed => ?_, fun hl => ?_⟩⟩⟩
      · obtain ⟨x, ex, rfl⟩ := enu_at ed
        obtain ⟨u, eu, ru⟩ := la.get ex
        have hqa := sqt_step mu1 s2 ha
        refine ⟨⟨us, u, hqa, eu⟩, fun x3 H3 ⟨T, u', e3, nT, eH, g1⟩ => ?_⟩
        have t1 := g1 us hqa
        rw [eu] at t1; cases t1
        subst e3
        subst eH
        exact ⟨same_upd nT, rep_tup mo nT (RepL.cons rep_int (RepL.cons (Rep.mono mu1 s2 _ _ ru) RepL.nil))⟩
      · refine ⟨us, sqt_step mu1 s2 ha, ?_⟩
        rw [← la.length]
        rw [enu_len] at hl
        exact hl
    · exact pz.elim⟩⟩
theorem e_Enum {c1 : CEx} {E : XP} {sc : List Sl} {hc : CH} {P : List D → CH → Prop} : cEnum c1 E sc hc P = cCons c1 cNil E sc hc fun ds hc1 => enuP ds P hc1 := rfl
theorem o_enL {xs : List D} {hc : CH} {P : List D → CH → Prop} : enuP [.lst xs] P hc = P (enuL xs) hc := rfl
theorem o_enT {xs : List D} {hc : CH} {P : List D → CH → Prop} : enuP [.tup xs] P hc = P (enuL xs) hc := rfl
end Mn

namespace Mn
open PySem PySem.Spec PyProof.Rows L2
/-! ### sorted(set(a list of ints)) -/
/-- a set just made -/
abbrev nuS (w : World) : Obj := { cls := .type "set", dict := none, data := .set #[] 0 (.fresh 0 0 (!w.params.followText "set-order")) }
section
variable {P : Program} {w : World} {A : Around} {E : Value → Shared → Prop} {s : Shared}
set_option maxHeartbeats 3200000 in
theorem set_of_list {l : Addr} {its : Array Value} (ns : List Int) {Q : Value → Shared → Prop} (calm : A.handled = none) (hl : s.heap.IsList l its) (hit : IntsAre its.toList ns) (hb : ns.length + 1 < scanBound)
    (y : ∀ (h2 : Heap) (tk c : Nat), SetR w h2 s.heap.objs.size (fun j => decide (j ∈ ns)) c → c ≤ ns.length → (∀ b o, s.heap.get? b = some o → h2.get? b = some o) → Q (.ref s.heap.objs.size) { s with heap := h2, toks := tk }) :
    wpAny (model P w) A (call (.type "set") [.ref l]) Q E s := by
  have sz : its.size = ns.length := by have z := IntsAre.length hit; rw [Array.length_toList] at z; exact z
  obtain ⟨c0, tl0, hmro⟩ := F.called_set.mro
  have made0 := F.called_set.made; have sub0 := F.called_set.sub
  refine wpAny_call (codeAny_of_tree ?_); show wpAny _ _ (callAny (.type "set") _) _ _ _
  refine wpAny_pure ⟨Code.quiet_builtin _ (by decide +kernel), codeAny_builtin F.entry_type_call ?_⟩; rw [Around.under_plain (weight_type_call_type "set" [.ref l] []) rfl]
  have g1 := F.called_set.notType; have g2 := F.called_set.canCreate; have g3 := F.typeCall_set_1 (.ref l)
  repeat (any_goals (first | assumption | wp_step))
  refine codeAny_mono (code_set_led1 (.ref l) (E := E) (Q₁ := fun ob t1 => ob = .ref s.heap.objs.size ∧ t1 = { s with heap := s.heap.push (nuS w) }) ⟨rfl, rfl⟩) fun r t1 hr => ?_
  cases r with
  | error e => exact hr
  | ok fl =>
    cases fl with
    | ret ob =>
      obtain ⟨rfl, rfl⟩ := hr
      have gS : (s.heap.push (nuS w)).get? s.heap.objs.size = some (nuS w) := Heap.get?_push_size _ rfl
      have gT : Shared.TypeIs { s with heap := s.heap.push (nuS w) } (.ref s.heap.objs.size) "set" := ⟨_, gS, rfl⟩
      have gi := F.called_set.init.lookup; have gb := F.called_set.init.bind (.ref s.heap.objs.size)
      repeat (any_goals (first | assumption | wp_step))
      refine codeAny_mono (codeAny_call_builtin (R := wants (fun r t2 => r = .none ∧ ∃ h2 tk c, t2 = { s with heap := h2, toks := tk } ∧ SetR w h2 s.heap.objs.size (fun j => decide (j ∈ ns)) c ∧ c ≤ ns.length ∧ (∀ b o, s.heap.get? b = some o → h2.get? b = some o)) E) F.called_set.init.plain F.entry_set_init (check_set_init_1 gT ?_)) fun r2 t2 hr2 => ?_
      · obtain ⟨ol, hol, hcl, nl, hdl⟩ := hl; obtain ⟨oc, od, oda, osl⟩ := ol
        simp only at hcl hdl
        subst hcl; subst hdl
        have hol1 : (s.heap.push (nuS w)).get? l = some { cls := .type "list", dict := od, data := .seq its nl, slots := osl } := Heap.get?_push_of_some _ hol
        have hs1 := F.sub_list_set; have hs2 := F.sub_list_frozenset
        have nd : (Value.type "list" == Value.type "dict") = false := by decide
        have hl1 : (s.heap.push (nuS w)).IsList l its := ⟨_, hol1, rfl, nl, rfl⟩
        unfold Builtin.«set.__init__» noKeywords Builtin.Frozenset.updateFrom
        generalize hPI : pyIter = PI; wp_walk; subst hPI
        refine wpAny_pyIter_list hl1 (wpAny_bind (wpAny_runValue ?_))
        have lS : l < s.heap.objs.size := Heap.lt_size hol
        have c3 : A.in1.in1.in1.handled = none := by simp [calm]
        have zz : (s.heap.push (nuS w)).objs.size = s.heap.objs.size + 1 := Heap.size_push ..
        have nI : l ≠ (s.heap.push (nuS w)).objs.size := by rw [zz]; exact Nat.ne_of_lt (Nat.lt_succ_of_lt lS)
        have nS : s.heap.objs.size ∉ [(s.heap.push (nuS w)).objs.size, l] := by
          rw [zz]; intro z
          rcases List.mem_cons.mp z with z | z
          · exact Nat.ne_of_lt (Nat.lt_succ_self _) z
          · exact Nat.ne_of_gt lS (List.mem_singleton.mp z)
        have val : ∀ (i : Nat) (v : Value), its[i]? = some v → ∃ k t, ns[i]? = some k ∧ v = .int k t := fun i v hv => by
          have hi : i < ns.length := by rw [← sz]; exact (Array.getElem?_eq_some_iff.mp hv).1
          obtain ⟨t, e⟩ := PyProof.Rows.IntsAre.int_at hit i v (by rw [Array.getElem?_toList]; exact hv)
          exact ⟨ns[i], t, List.getElem?_eq_getElem hi, by rw [e, List.getD_eq_getElem?_getD, List.getElem?_eq_getElem hi] <;> rfl⟩
        refine set_update_ints ((Walks.list c3 _ l nI its).toS) s.heap.objs.size nS ns sz hb val (its.size - 0) 0 _ (by omega) (Nat.zero_le _) ⟨⟨_, Heap.get?_push_size _ rfl, rfl, rfl⟩, (hl1.push _)⟩ ⟨0, Nat.le_refl 0, setR_new_at (Heap.get?_push_of_some _ gS)⟩ fun s2 c2 hm hc2 hS2 => ?_
        obtain ⟨h2, gn2, d2, tk2, os2⟩ := s2
        have eg : gn2 = s.gens := hm.gens; have ed : d2 = s.drawn := hm.drawn; have eo : os2 = s.os := hm.os
        subst eg; subst ed; subst eo
        show wpAny _ _ _ _ _ _
        refine wpAny_pure ?_
        show wpAny _ _ (ret Value.none) _ _ _
        rw [sz] at hc2
        refine wpAny_pure ⟨rfl, h2, tk2, c2, rfl, hS2, hc2, fun b o e => ?_⟩
        have b0 : b < s.heap.objs.size := Heap.lt_size e
        refine hm.heap b o (fun z => ?_) (Heap.get?_push_of_some _ (Heap.get?_push_of_some _ e))
        rcases List.mem_cons.mp z with z | z
        · exact Nat.ne_of_lt b0 z
        · rw [List.mem_singleton] at z
          have z : b = (s.heap.push (nuS w)).objs.size := z
          rw [zz] at z
          exact Nat.ne_of_lt (Nat.lt_succ_of_lt b0) z
      · cases r2 with
        | error e => exact hr2
        | ok fl2 =>
          cases fl2 with
          | ret r =>
            obtain ⟨rfl, h2, tk, c, rfl, hS, hc, hk⟩ := hr2
            repeat (any_goals (first | assumption | wp_step))
            exact y _ _ _ hS hc hk
          | _ => exact hr2.elim
    | _ => exact hr.elim
theorem sorted_of_set {a : Addr} {S : Int → Bool} {n : Nat} {Q : Value → Shared → Prop} (R : SetR w s.heap a S n) (calm : A.handled = none) (n1 : n ≤ sizeLine)
    (y : ∀ t1 p (out : Array Value) (c : Nat) (ns : List Int), (∀ b o, s.heap.get? b = some o → t1.heap.get? b = some o) → t1.gens = s.gens → t1.os = s.os → s.heap.objs.size ≤ p → t1.heap.get? p = some (seqObj "list" out c) → IntsAre out.toList ns → ns.Pairwise (· < ·) → (∀ k, k ∈ ns ↔ S k = true) → ns.length = n → Q (.ref p) t1) :
    wpAny (model P w) A (call (.builtin "sorted") [.ref a]) Q E s := by
  obtain ⟨o, es, ep, t, ho, hex, hd, g, nd, hm, hb, hf, hn, hr, hl⟩ := R
  refine Calls.call_function_entry kind_sorted plain_sorted entry_sorted (args_sorted1 _) ?_
  unfold Builtin.«sorted»
  refine wpAny_bind (m := checkCount "sorted" 1 1 _) (wpAny_pure (wpAny_bind (collect_set (A := A.in1) calm ⟨o, ho, hex.1, hd⟩ hf hb hr hl fun t1 vs k1 hz gg oo pm => ?_)))
  have vl : vs.length = n := by rw [pm.length_eq, List.length_map, Array.length_toList]; exact hn
  have vi : IntsAre vs (vs.map Builtin.Re.reRawOf) := ints_of vs fun v hv => by
    obtain ⟨e, he, q⟩ := List.mem_map.mp (pm.mem_iff.mp hv); obtain ⟨k, tk, e1, _⟩ := g e he
    exact ⟨k, tk, by rw [← q]; exact e1⟩
  have pk : (vs.map Builtin.Re.reRawOf).Perm (es.toList.map keyOf) := by have q := pm.map Builtin.Re.reRawOf; rw [List.map_map] at q; exact q
  refine wpAny_bind (wpAny_newList ?_ (by rw [vl]; exact n1))
  have gL : (t1.heap.push (seqObj "list" vs.toArray 0)).get? t1.heap.objs.size = some (seqObj "list" vs.toArray 0) := Heap.get?_push_size _ rfl
  refine wpAny_bind (wpAny_holding (wpAny_call_entry slot_list_sort ⟨_, gL, rfl⟩ entry_list_sort (list_sort_treeAny gL vi (by rw [vl]; exact n1) fun out ns2 a1 a2 a3 => ⟨_, rfl, ?_⟩) (args_list_sort _)))
  obtain ⟨c, hc⟩ := sortedHeap_at (vs := vs) (out := out) gL
  have pn : ns2.Perm (es.toList.map keyOf) := a2.trans pk
  refine wpAny_pure ⟨_, rfl, y _ t1.heap.objs.size out c ns2 (fun b u e => ?_) gg oo hz hc a1 (lt_of_le_nodup ns2 a3 (pn.nodup_iff.mpr nd)) (fun k => by rw [pn.mem_iff, ← hm k]) (by rw [pn.length_eq, List.length_map, Array.length_toList]; exact hn)⟩
  have q := k1 b u e; have lt := Heap.lt_size q
  show (sortedHeap (t1.heap.push (seqObj "list" vs.toArray 0)) t1.heap.objs.size vs out).get? b = some u
  rw [sortedHeap_old (Nat.ne_of_lt lt) (by rw [size_push']; exact Nat.lt_succ_of_lt lt)]; exact Heap.get?_push_of_some _ q
end
/-- sorted(set(e)) -/
def tSrtS (K : PySem.W.Frag) (ta : TE) : TE := fun σ H Q => ta σ H fun x H1 => ∃ (l : Addr) (ns : List Int), x = V.ref l ∧ SqL K H1 l (ns.map V.int) ∧ ns.length ≤ 4000 ∧ ∀ (ms : List Int) (p : Addr), ms.Pairwise (· < ·) → (∀ k, k ∈ ms ↔ k ∈ ns) → ms.length ≤ ns.length → H1 p = none → Q (.ref p) (upd H1 p (.lst (ms.map V.int)))
theorem pe_srtS {X : Cx} {a : Expr} {ta : TE} {p p2 q pos : Pos} (hc : X.calm = true) (hg : Gl X "sorted") (hm : X.mg "sorted" = none) (hg2 : Gl X "set") (hm2 : X.mg "set" = none) (ha : PE X a ta)
    (na : starEach [a] X.env = (false, eval a X.env) :: starEach [] X.env := by rfl) (nb : starEach [.Call (.Name "set" p2) [a] [] q] X.env = (false, eval (.Call (.Name "set" p2) [a] [] q) X.env) :: starEach [] X.env := by rfl) :
    PE X (.Call (.Name "sorted" p) [.Call (.Name "set" p2) [a] [] q] [] pos) (tSrtS X.K ta) := by
  refine ⟨fun pins s σ H Q I y => ?_⟩
  refine Call_ (ld_blt I hg hm PyProof.Rows.boot_sorted ?_)
  refine PyProof.Rows.callWith_builtin1 (PyProof.Rows.args_cons ?_ nb) nb rfl
  refine Call_ (ld_blt I hg2 hm2 PyProof.Rows.boot_set ?_)
  refine PyProof.Rows.callWith_type1 (PyProof.Rows.args_cons (thn (ha.run pins s σ H _ I y) fun v s1 ⟨x, H1, I1, r1, q1⟩ => PyProof.Rows.args_nil ?_) na) na rfl
  obtain ⟨l, ns, rfl, hq, h1, q1⟩ := q1
  cases r1
  obtain ⟨its, r, pl, hz⟩ := I1.list hq
  have hd := I1.ok.hd hc
  refine set_of_list ns hd pl.isList (by simpa using r.ints) (by unfold scanBound; omega) fun h2 tk c R1 hcn hk => PyProof.Rows.args_nil ?_
  have I2 : Inv X pins σ H1 { s1 with heap := h2, toks := tk } := I1.kept hk
  refine sorted_of_set R1 hd (by rw [sizeLine_eq]; omega) fun t1 p out c2 ms k1 g1 o1 hp hg3 hi hs hme hle => ?_
  have ml : (ms.map V.int).length ≤ sizeLine := by rw [List.length_map, hle, sizeLine_eq]; omega
  have hp1 : s1.heap.objs.size ≤ p := Nat.le_trans (Nat.le_of_lt R1.lt) hp
  have k0 : ∀ b u, s1.heap.get? b = some u → t1.heap.get? b = some u := fun b u e => k1 b u (hk b u e)
  have nn : H1 p = none := I1.hok.fresh hp1
  have J : Inv X pins σ (upd H1 p (.lst (ms.map V.int))) { s1 with heap := t1.heap, gens := t1.gens, drawn := t1.drawn, toks := t1.toks } :=
    I1.call (ch := []) (Un.laid k0 hp1 nn) (I1.hok.laid k0 hp1 ⟨ml, out.toList, c2, vals_of_ints hi, hg3⟩) (by rw [g1]; exact I1.bare) (fun _ z => nomatch z)
  have e : t1 = { s1 with heap := t1.heap, gens := t1.gens, drawn := t1.drawn, toks := t1.toks } := by cases t1; cases s1; cases o1; rfl
  rw [e]
  exact ⟨.ref p, _, J, rfl, q1 ms p hs (fun k => by rw [hme k, decide_eq_true_eq]) (by omega) nn⟩
/-- in clean data -/
def cSrtS (c1 : CEx) : CEx := fun E sc hc P => c1 E sc hc fun d hc1 => match d with
  | .lst xs => ∃ ns : List Int, xs = ns.map D.int ∧ ns.length ≤ 4000 ∧ ∀ ms : List Int, ms.Pairwise (· < ·) → (∀ k, k ∈ ms ↔ k ∈ ns) → ms.length ≤ ns.length → P (.lst (ms.map D.int)) hc1
  | _ => False
theorem repL_ints {K : PySem.W.Frag} {H : Hp} {m : Ms} : ∀ ns : List Int, RepL K H m (ns.map D.int) (ns.map V.int)
  | [] => RepL.nil
  | _ :: ns => RepL.cons rep_int (repL_ints ns)
theorem ints_rep {K : PySem.W.Frag} {H : Hp} {m : Ms} : ∀ {ns : List Int} {vs : List V}, RepL K H m (ns.map D.int) vs → vs = ns.map V.int
  | [], vs, h => by
    rw [List.map_nil] at h
    unfold RepL at h
    exact h
  | n :: ns, vs, h => by
    rw [List.map_cons] at h
    unfold RepL at h
    obtain ⟨v, r, rfl, a, b⟩ := h
    unfold Rep at a
    rw [a, ints_rep b]
    rfl
theorem ce_srtS {X : Cx} {W : WX} {e : Expr} {ca : CEx} {p p2 pos pos2 : Pos} (hc : X.calm = true) (hl : X.mg "sorted" = none) (hr : X.mg "set" = none) (h : CE X W e ca) (hg : Gl X "sorted" := by rfl) (hg2 : Gl X "set" := by rfl) (na : starEach [e] X.env = (false, eval e X.env) :: starEach [] X.env := by rfl)
    (nb : starEach [.Call (.Name "set" p2) [e] [] pos2] X.env = (false, eval (.Call (.Name "set" p2) [e] [] pos2) X.env) :: starEach [] X.env := by rfl) : CE X W (.Call (.Name "sorted" p) [.Call (.Name "set" p2) [e] [] pos2] [] pos) (cSrtS ca) :=
  ⟨pe_wk (pe_srtS hc hg hl hg2 hr h.p na nb) fun σ H Q ⟨en, sc, hc, m, E, P, r, k, xo, fin⟩ =>
    ⟨en, sc, hc, m, E, _, r, k, xo, fun d hc1 pp v H1 m1 x1 q => by
      cases d <;> try exact pp.elim
      rename_i xs
      obtain ⟨ns, rfl, nl, pp⟩ := pp
      unfold Rep at q
      obtain ⟨a, us, rfl, nna, ha, la⟩ := q
      cases ints_rep la
      exact ⟨a, ns, rfl, .of ha, nl, fun ms p hs hme hle np => fin _ hc1 (pp ms hs hme hle) _ _ m1 (x1.trans (Ex.same x1.toWd (same_upd np))) (rep_lst (r.call x1).mu np (repL_ints _))⟩⟩⟩
theorem e_SrtS {c1 : CEx} {E : XP} {sc : List Sl} {hc : CH} {P : D → CH → Prop} : cSrtS c1 E sc hc P = c1 E sc hc fun d hc1 => match d with
  | .lst xs => ∃ ns : List Int, xs = ns.map D.int ∧ ns.length ≤ 4000 ∧ ∀ ms : List Int, ms.Pairwise (· < ·) → (∀ k, k ∈ ms ↔ k ∈ ns) → ms.length ≤ ns.length → P (.lst (ms.map D.int)) hc1
  | _ => False := rfl
end Mn

namespace Mn
open PySem PySem.Spec PyProof.Rows L2
/-! ### all(a list of truths) -/
section
variable {X : Cx}
theorem repl_bls_of {K : PySem.W.Frag} {H : Hp} {m : Ms} : ∀ {ns : List Bool} {vs : List V}, RepL K H m (ns.map D.bl) vs → vs = ns.map V.bl
  | [], vs, h => by unfold List.map RepL at h; exact h
  | n :: ns, vs, h => by
    unfold List.map RepL at h
    obtain ⟨v, r, rfl, h1, h2⟩ := h
    unfold Rep at h1
    rw [h1, repl_bls_of h2]
    rfl
theorem rep_blv {K : PySem.W.Frag} {H : Hp} {m : Ms} {b : Bool} : Rep K H m (.bl b) (.bl b) := by unfold Rep; rfl
def allD : On := fun ds hc P => match ds with
  | [.lst xs] => ∃ ns : List Bool, xs = ns.map D.bl ∧ P (.bl (ns.all id))
  | _ => False
theorem bf_all (hc : X.calm = true) : CallR X (.builtin "all") (LVn X.K allD) := by
  intro pins s σ H xs us Q I r h
  obtain ⟨hc', m, ds, P, w, h1, f, fin⟩ := h
  unfold allD at f
  split at f
  · obtain ⟨x, rfl, k1⟩ := wl1 h1
    unfold RepW at k1
    obtain ⟨p, vs, rfl, q, rl⟩ := k1
    obtain ⟨ns, rfl, pd⟩ := f
    rw [repl_bls_of rl] at q
    exact cr_all hc pins s σ H _ us Q I r ⟨p, ns, rfl, .of q, fin _ pd _ _ (.refl H) rep_blv⟩
  · exact f.elim
theorem o_all1 {hc : CH} {P : D → Prop} {xs : List D} : allD [.lst xs] hc P = ∃ ns : List Bool, xs = ns.map D.bl ∧ P (.bl (ns.all id)) := rfl
end
end Mn

namespace Mn
open PySem PySem.Spec PyProof.Rows L2
/-! ### texts: a text times a number, a sign in a text -/
def repS (x : Str) (n : Int) : Str := ⟨(List.replicate n.toNat x.cps.toList).flatten.toArray⟩
theorem rep_fold : ∀ (k : Nat) (a acc : Array Nat), (List.replicate k a).foldl (· ++ ·) acc = (acc.toList ++ (List.replicate k a.toList).flatten).toArray
  | 0, a, acc => by simp
  | k + 1, a, acc => by
    rw [List.replicate_succ, List.foldl_cons, rep_fold k a (acc ++ a), List.replicate_succ, List.flatten_cons, Array.toList_append, List.append_assoc]
theorem repS_fold {x : Str} {n : Int} : repS x n = ⟨(List.replicate n.toNat x.cps).foldl (· ++ ·) #[]⟩ := by
  rw [rep_fold]
  rfl
def mulTD : O2
  | .str x, .int n, _, P => (0 ≤ n ∧ n ≤ 1000 ∧ 0 < x.length ∧ x.length ≤ 1000) ∧ P (.str (repS x n))
  | _, _, _, _ => False
section
variable {X : Cx}
theorem op_mulTD : OpR X (binaryOp .Mult) (LV2 X.K mulTD) := by
  intro pins s σ H x y v u Q I rx ry h
  obtain ⟨hc, m, dx, dy, P, w, h1, h2, f, fin⟩ := h
  unfold mulTD at f
  split at f
  · rename_i z n
    unfold RepW Rep at h1 h2
    subst h1; subst h2
    obtain ⟨⟨n0, n1, l0, l1⟩, k⟩ := f
    obtain ⟨t, rfl⟩ := rx
    obtain ⟨t', rfl⟩ := ry
    have n2 : z.length * n.toNat ≤ 1000 * 1000 := Nat.mul_le_mul l1 (by omega)
    have fz := fin _ k _ _ (.refl H) rep_str
    refine PySem.P.mul_str (by rw [decide_eq_false (by omega), decide_eq_false (by omega)]; rfl) (fun h _ => ?_) (fun _ _ => ?_) ?_
    · have h3 : (2 ^ 63 - 1) / 1000 ≤ (2 ^ 63 - 1) / n := by
        have a : (2 ^ 63 - 1 : Int) / 1000 * n ≤ 2 ^ 63 - 1 := by
          have b : (2 ^ 63 - 1 : Int) / 1000 * n ≤ (2 ^ 63 - 1) / 1000 * 1000 := Int.mul_le_mul_of_nonneg_left n1 (by decide)
          omega
        exact (Int.le_ediv_iff_mul_le (by omega)).mpr a
      omega
    · unfold Builtin.Str.tooLong
      rw [decide_eq_false]
      rw [sizeLine_eq]
      omega
    · by_cases a : n < 1
      · rw [if_pos a]
        have e : repS z n = Str.empty := by
          obtain rfl : n = 0 := by omega
          rfl
        rw [e] at fz
        exact ⟨by decide, .str _, H, I.tok _, ⟨_, rfl⟩, fz⟩
      · rw [if_neg a]
        by_cases b : n = 1
        · subst b
          rw [if_pos (by rfl)]
          have e : repS z 1 = z := by
            cases z
            unfold repS
            simp
          rw [e] at fz
          exact ⟨.str _, H, I, ⟨_, rfl⟩, fz⟩
        · rw [if_neg (by
            rw [Bool.or_eq_true, beq_iff_eq, beq_iff_eq]
            omega)]
          rw [← repS_fold]
          refine ⟨?_, .str _, H, I.tok _, ⟨_, rfl⟩, fz⟩
          have e : (repS z n).length = n.toNat * z.length := by
            show ((List.replicate n.toNat z.cps.toList).flatten.toArray).size = _
            rw [List.size_toArray, List.length_flatten, List.map_replicate, List.sum_replicate_nat]
            rfl
          rw [e, Nat.mul_comm, sizeLine_eq]
          omega
  · exact f.elim
def inXD : O2 := fun x y hc P => match y with
  | .str z => match x with
    | .str s => ∃ c : Nat, s = ⟨#[c]⟩ ∧ P (.bl (decide (c ∈ z.cps.toList)))
    | _ => False
  | _ => inD x y hc P
theorem op_inXD {k : Nat} (g : RG k X.A) : OpR X (compareOp .In) (LV2 X.K inXD) := by
  intro pins s σ H x y v u Q I rx ry h
  obtain ⟨hc, m, dx, dy, P, w, h1, h2, f, fin⟩ := h
  unfold inXD at f
  split at f
  · split at f
    · unfold RepW Rep at h1 h2
      subst h1; subst h2
      obtain ⟨c, rfl, k⟩ := f
      exact op_in_sign pins s σ H _ _ v u Q I rx ry ⟨c, _, rfl, rfl, fin _ k _ _ (.refl H) rep_blv⟩
    · exact f.elim
  · exact op_inDD g pins s σ H x y v u Q I rx ry ⟨hc, m, dx, dy, P, w, h1, h2, f, fin⟩
end
/-! ### a text walked -/
def signsD (z : Str) : List D := z.cps.toList.map fun c => D.str ⟨#[c]⟩
theorem signs_at {z : Str} {i : Nat} {d : D} (h : (signsD z)[i]? = some d) : ∃ c, z.cps[i]? = some c ∧ d = .str ⟨#[c]⟩ := by
  unfold signsD at h
  rw [List.getElem?_map, Array.getElem?_toList] at h
  cases e : z.cps[i]? with
  | none => rw [e] at h; cases h
  | some c => rw [e] at h; cases h; exact ⟨c, rfl, rfl⟩
theorem signs_len {z : Str} : (signsD z).length = z.length := by
  unfold signsD
  rw [List.length_map, Array.length_toList]
  rfl
def cItS (ce : CEx) : CIx := fun E sc hc P => ce E sc hc fun d hc1 => match d with | .str z => P (signsD z) hc1 | _ => False
section
variable {X : Cx} {W : WX} {tg e : Expr} {ce : CEx}
theorem ci_str (h : CE X W e ce) : CI X W tg e (cItS ce) := ⟨pi_wk (pi_str h.p) fun σ H R ⟨en, sc, hc, m, E, P, r, k, xo, fin⟩ =>
  ⟨en, sc, hc, m, E, _, r, k, xo, fun d hc1 p v H1 m1 x1 q => by
    cases d <;> try exact p.elim
    rename_i z
    unfold Rep at q
    subst q
    refine ⟨z, rfl, fin _ hc1 p _ H1 m1 x1 fun H2 m2 mo s2 i => ⟨fun d ed => ?_, fun hl => ?_⟩⟩
    · obtain ⟨c, ec, rfl⟩ := signs_at ed
      refine ⟨?_, fun x3 H3 ⟨e3, c', ec', e4⟩ => ?_⟩
      · exact (Array.getElem?_eq_some_iff.mp ec).1
      · rw [ec] at ec'; cases ec'
        subst e3; subst e4
        exact ⟨.refl _, rep_str⟩
    · rw [signs_len] at hl
      exact hl⟩⟩
end
theorem e_ItS {ce : CEx} {E : XP} {sc : List Sl} {hc : CH} {P : List D → CH → Prop} : cItS ce E sc hc P = ce E sc hc fun d hc1 => match d with | .str z => P (signsD z) hc1 | _ => False := rfl
/-! ### enumerate of a text -/
/-- the signs of x, each in a new pair -/
def IteS (x : Str) : It :=
  ⟨fun i _ => i < x.cps.size, fun i H v H2 => ∃ N c, v = .ref N ∧ H N = none ∧ H2 = upd H N (.tup [.int (i : Nat), .str ⟨#[c]⟩]) ∧ x.cps[i]? = some c, fun i _ => x.cps.size ≤ i⟩
theorem turn_enS {P : Program} {w : World} {K : PySem.W.Frag} {elts : List Expr} {kk : Nat} {tpos : Pos} (x : Str) (t : Tok) (e it : Addr) :
    Turn P w K (.Tuple elts kk tpos) (IteS x) [e, it] e (fun i h => (∃ old, IsEnum h e it ((i : Nat) : Int) old) ∧ h.IsStrIter it (strIterType x) x t i ∧ e ≠ it) where
  mem := List.mem_cons_self ..
  obj := fun i h st b hb => by
    obtain ⟨⟨old, ie⟩, ⟨o, ho, hcl, hdt⟩, _⟩ := st
    rcases List.mem_cons.mp hb with rfl | hb
    · exact ⟨_, ie, fun v q => nomatch q⟩
    · cases List.mem_singleton.mp hb
      exact ⟨o, ho, fun v q => by rw [hdt] at q; cases q⟩
  keep := fun i h h2 st k => by
    obtain ⟨⟨old, ie⟩, ⟨o, ho, r⟩, ne⟩ := st
    exact ⟨⟨old, k e (List.mem_cons_self ..) _ ie⟩, ⟨o, k it (List.mem_cons_of_mem _ (List.mem_singleton_self _)) o ho, r⟩, ne⟩
  item := by
    intro X eP ew eK cal i pins s σ H E I apart st gd
    subst eP ew eK
    obtain ⟨⟨old, ie⟩, hit, ne⟩ := st
    have le : e < s.heap.objs.size := Heap.lt_size ie
    have li : it < s.heap.objs.size := by obtain ⟨_, q, _⟩ := hit; exact Heap.lt_size q
    have D := Draws.text (prog := X.prog) (w := X.w) (A := X.A.in1) (I.ok.hd cal) it x t
    refine wpAny_pyNext_enum_itemD D ie hit gd ne ?_ fun y h2 tk hy out st2 hN hsz hk => ?_
    · intro q
      exact ne (List.mem_singleton.mp q)
    obtain ⟨c, u, hc, rfl⟩ := hy
    refine ⟨_, rfl, wpAny_letOwnedTupleGo_enum (s := { s with heap := h2, toks := tk + 1 }) out fun h3 ie3 sb => ?_⟩
    have hN3 : h3.get? s.heap.objs.size = some { cls := .type "tuple", data := .seq #[.int i tk, .str ⟨#[c]⟩ u] } := (sb.2 _ (Nat.ne_of_gt le)).trans hN
    have new : ObjOk X.prog X.w (upd H s.heap.objs.size (.tup [.int (i : Nat), .str ⟨#[c]⟩])) h3 s.heap.objs.size (.tup [.int (i : Nat), .str ⟨#[c]⟩]) :=
      ⟨show 2 ≤ sizeLine by decide, [.int i tk, .str ⟨#[c]⟩ u], .cons ⟨_, rfl⟩ (.cons ⟨_, rfl⟩ .nil), ⟨_, hN3, rfl, _, rfl⟩⟩
    have I1 : Inv X pins σ (upd H s.heap.objs.size (.tup [.int (i : Nat), .str ⟨#[c]⟩])) { s with heap := h3, toks := tk + 1 } :=
      I.turnedNew (t' := tk + 1) (ch := [e, it]) (fun b ob hb q => (sb.2 b (fun z => hb (z ▸ List.mem_cons_self ..))).trans (hk b ob (fun z => hb (z ▸ List.mem_cons_self ..)) (fun z => hb (z ▸ List.mem_cons_of_mem _ (List.mem_singleton_self _))) q)) apart (Nat.le_refl _) new
    have sit : h3.IsStrIter it (strIterType x) x t (i + 1) := by
      obtain ⟨o, ho, r⟩ := st2
      exact ⟨o, (sb.2 it (Ne.symm ne)).trans ho, r⟩
    refine ⟨.ref s.heap.objs.size, _, I1, rfl, ⟨_, c, rfl, I.hok.fresh (Nat.le_refl _), rfl, hc⟩, ⟨⟨.str ⟨#[c]⟩ u, ?_⟩, sit, ne⟩, fun b hb => ?_⟩
    · rw [show ((i + 1 : Nat) : Int) = (i : Int) + 1 by omega]
      exact ie3
    · have lb : b < s.heap.objs.size := by
        rcases List.mem_cons.mp hb with rfl | hb
        · exact le
        · cases List.mem_singleton.mp hb
          exact li
      exact (upd_ne (Nat.ne_of_lt lb)).trans (apart b hb).1
  done := by
    intro X eP ew eK cal i pins s σ H E I apart st gd
    subst eP ew eK
    obtain ⟨⟨old, ie⟩, hit, ne⟩ := st
    obtain ⟨f0, f1, f2, f3, f4, f5⟩ := apart it (List.mem_cons_of_mem _ (List.mem_singleton_self _))
    have hT : s.TypeIs (.ref e) "enumerate" := ⟨_, ie, rfl⟩
    unfold pyNext
    refine wpAny_bind (wpAny_attempt (wpAny_callSpecial?_slot (name := Str.ofString "__next__") hT F.slot_enumerate_next
      (wpAny_call_entry F.slot_enumerate_next hT F.entry_enumerate_next ?_ (F.args_enumerate_next_1 _))))
    show wpAny _ _ (field (.ref e) 2 >>= _) _ _ _
    refine wpAny_bind (wpAny_field ie rfl (x := .ref it) rfl ?_)
    have nx : ∀ {Q E2 : Value → Shared → Prop}, (∀ h2 x, Heap.ExtBut it s.heap h2 → (∃ o, h2.get? x = some o ∧ o.cls = .type "StopIteration") → E2 (.ref x) { s with heap := h2 }) → wpAny (model X.prog X.w) X.A.in1 (Builtin.SmallTypes.nextOf (.ref it)) Q E2 s := fun {Q E2} q => by
      have hx : x.cps[i]? = none := Array.getElem?_eq_none gd
      cases ha : x.cps.all (· < 128)
      · simp only [strIterType, ha, Bool.false_eq_true, if_false] at hit
        exact wpAny_nextOf_wide_end (I.ok.hd cal) hit hx q
      · simp only [strIterType, ha, if_true] at hit
        exact wpAny_nextOf_ascii_end (I.ok.hd cal) hit hx q
    refine wpAny_bind (nx fun h2 x eb hx => ?_)
    obtain ⟨o, ho, hcl⟩ := hx
    refine wpAny_bind (wpAny_isInstance (T := "StopIteration") (b := true) ⟨o, ho, hcl⟩ isSubtype_stop ?_)
    exact wpAny_pure ⟨rfl, I.turned (t' := s.toks) (fun b o hb q => eb b o hb q) f0 f1 f3 f4 f5⟩
  self := fun A i s Q E st y => by
    obtain ⟨⟨_, ie⟩, _⟩ := st
    exact wpAny_pyIter_enum ie y
def iEnS (ta : TA) : TI := fun σ H R => ta σ H fun vs H1 => ∃ x, vs = [.str x] ∧ R (IteS x) H1
theorem pi_enS {X : Cx} {e : Expr} {ta : TA} {p pos tpos : Pos} {elts : List Expr} {kk : Nat} (hg : Gl X "enumerate") (hm : X.mg "enumerate" = none) (ha : PA X [e] ta) (hs : starEach [e] X.env = [(false, eval e X.env)] := by rfl) :
    PI X (.Tuple elts kk tpos) (.Call (.Name "enumerate" p) [e] [] pos) (iEnS ta) := by
  refine ⟨fun pins s σ H R I y => ?_⟩
  refine Call_ (ld_blt I hg hm boot_enumerate (PyProof.Rows.callWith_type1 (thn (ha.run pos pins s σ H _ I y) fun us s1 ⟨vs, H1, I1, r1, q1⟩ => ?_) hs rfl))
  obtain ⟨x, ev, q⟩ := q1
  subst ev
  cases r1 with
  | cons r rr =>
    cases rr
    obtain ⟨t, rfl⟩ := r
    have ap : ∀ b ∈ [s1.heap.objs.size + 1, s1.heap.objs.size], s1.heap.objs.size ≤ b := fun b hb => by
      rcases List.mem_cons.mp hb with rfl | hb
      · exact Nat.le_add_right _ _
      · cases List.mem_singleton.mp hb
        exact Nat.le_refl _
    refine enum_call (begins_text x t) trivial fun h2 ie hit hk => wpAny_pyIter_enum ie ?_
    have I2 : Inv X pins σ H1 { s1 with heap := h2 } := I1.kept (t' := s1.toks) hk
    exact ⟨s1.heap.objs.size + 1, [s1.heap.objs.size + 1, s1.heap.objs.size], _, _, H1, rfl, I2, turn_enS x t (s1.heap.objs.size + 1) s1.heap.objs.size, ⟨⟨.none, ie⟩, ⟨_, hit, rfl, rfl⟩, Nat.succ_ne_self _⟩, fun b hb => I1.fpOk (ap b hb) (I1.hok.fresh (ap b hb)), q⟩
def enuSP (ds : List D) (P : List D → CH → Prop) (hc : CH) : Prop := match ds with
  | [.str z] => P (enuL (signsD z)) hc
  | _ => False
def cEnumS (c1 : CEx) : CIx := fun E sc hc P => cCons c1 cNil E sc hc fun ds hc1 => enuSP ds P hc1
theorem ci_enumS {X : Cx} {W : WX} {elts : List Expr} {kk : Nat} {tpos p pos : Pos} {e : Expr} {c1 : CEx} (hm : X.mg "enumerate" = none) (h1 : CE X W e c1) (hg : Gl X "enumerate" := by rfl) (hs : starEach [e] X.env = (false, eval e X.env) :: starEach [] X.env := by rfl) (hs1 : starEach [e] X.env = [(false, eval e X.env)] := by rfl) :
    CI X W (.Tuple elts kk tpos) (.Call (.Name "enumerate" p) [e] [] pos) (cEnumS c1) := ⟨pi_wk (pi_enS hg hm (ca_cons h1 ca_nil hs).p hs1) fun σ H R ⟨en, sc, hc, m, E, P, r, k, xo, fin⟩ =>
  ⟨en, sc, hc, m, E, fun ds hc1 => enuSP ds P hc1, r, k, xo, fun ds hc1 pz vs H1 m1 x1 q => by
    have mu1 := (r.call x1).mu
    have pz : enuSP ds P hc1 := pz
    unfold enuSP at pz
    split at pz
    · rename_i z _
      unfold RepL at q
      obtain ⟨v1, r1, rfl, qa, q⟩ := q
      unfold RepL at q
      subst q
      unfold Rep at qa
      subst qa
      refine ⟨z, rfl, fin _ hc1 pz _ H1 m1 x1 fun H2 m2 mo s2 i => ⟨fun d ed => ?_, fun hl => ?_⟩⟩
      · obtain ⟨y, ey, rfl⟩ := enu_at ed
        obtain ⟨c, ec, rfl⟩ := signs_at ey
        refine ⟨(Array.getElem?_eq_some_iff.mp ec).1, fun x3 H3 ⟨T, c', e3, nT, eH, ec'⟩ => ?_⟩
        rw [ec] at ec'; cases ec'
        subst e3
        subst eH
        exact ⟨same_upd nT, rep_tup mo nT (RepL.cons rep_int (RepL.cons rep_str RepL.nil))⟩
      · rw [enu_len, signs_len] at hl
        exact hl
    · exact pz.elim⟩⟩
theorem e_EnumS {c1 : CEx} {E : XP} {sc : List Sl} {hc : CH} {P : List D → CH → Prop} : cEnumS c1 E sc hc P = cCons c1 cNil E sc hc fun ds hc1 => enuSP ds P hc1 := rfl
theorem o_enS {z : Str} {hc : CH} {P : List D → CH → Prop} : enuSP [.str z] P hc = P (enuL (signsD z)) hc := rfl
/-! ### join, index -/
theorem repl_strs_of {K : PySem.W.Frag} {H : Hp} {m : Ms} : ∀ {ns : List Str} {vs : List V}, RepL K H m (ns.map D.str) vs → vs = ns.map V.str
  | [], vs, h => by unfold List.map RepL at h; exact h
  | n :: ns, vs, h => by
    unfold List.map RepL at h
    obtain ⟨v, r, rfl, h1, h2⟩ := h
    unfold Rep at h1
    rw [h1, repl_strs_of h2]
    rfl
def cJn (ca cb : CEx) : CEx := fun E sc hc P => ca E sc hc fun d hc1 => match d with
  | .str a => cb E sc hc1 fun d2 hc2 => match d2 with
    | .lst xs => ∃ ys : List Str, xs = ys.map D.str ∧ (ys.map (·.length)).sum + ys.length * a.length ≤ 16777216 ∧ P (.str (Txt.join a ys)) hc2
    | _ => False
  | _ => False
def cIxS (ca cb : CEx) : CEx := fun E sc hc P => ca E sc hc fun d hc1 => match d with
  | .str a => cb E sc hc1 fun d2 hc2 => match d2 with
    | .str b => ∃ (i : Nat) (rest : List Nat), Builtin.Str.occurrences a b 0 a.length 1 = i :: rest ∧ P (.int (i : Int)) hc2
    | _ => False
  | _ => False
section
variable {X : Cx} {W : WX} {e e2 : Expr} {ca cb : CEx} {apos pos : Pos}
theorem ce_join (h : CE X W e ca) (h2 : CE X W e2 cb) (hs : starEach [e2] X.env = (false, eval e2 X.env) :: starEach [] X.env := by rfl)
    (hb : attributeBase e "join" X.env (eval e X.env) = eval e X.env := by rfl)
    (hfew : ((backTo pos (starEach [e2] X.env)).all (fun x => !x.1) && (backToKw pos (keywordEach [] X.env)).all (fun x => x.1.isSome)
      && decide ([e2].length + ([] : List Keyword).length + (if ([] : List Keyword).isEmpty then 0 else 1) < 30)) = true := by rfl)
    (hl : (apos.endLine == pos.line) = true := by rfl) : CE X W (.Call (.Attribute e "join" apos) [e2] [] pos) (cJn ca cb) :=
  ⟨pe_wk (pe_bm PySem.F.plainAttrs_str PySem.F.slot_str_join PySem.F.type_str_join mt_join h.p (pa_cons h2.p pa_nil hs) hb hfew hl hs) fun σ H Q ⟨en, sc, hc, m, E, P, r, k, xo, fin⟩ =>
    ⟨en, sc, hc, m, E, _, r, k, xo, fun d hc1 p v H1 m1 x1 q => by
      cases d <;> try exact p.elim
      rename_i a
      unfold Rep at q
      subst q
      exact ⟨rfl, en, sc, hc1, m1, E, _, r.call x1, p, xo, fun d2 hc2 p2 v2 H2 m2 x2 q2 => by
        cases d2 <;> try exact p2.elim
        rename_i xs
        unfold Rep at q2
        obtain ⟨p3, vs, rfl, na, ha, la⟩ := q2
        obtain ⟨ys, rfl, sz, pd⟩ := p2
        rw [repl_strs_of la] at ha
        exact ⟨a, p3, ys, rfl, rfl, .inl (.of ha), sz, fin _ hc2 pd _ H2 m2 (x1.trans x2) rep_str⟩⟩⟩⟩
theorem ce_index (h : CE X W e ca) (h2 : CE X W e2 cb) (hs : starEach [e2] X.env = (false, eval e2 X.env) :: starEach [] X.env := by rfl)
    (hb : attributeBase e "index" X.env (eval e X.env) = eval e X.env := by rfl)
    (hfew : ((backTo pos (starEach [e2] X.env)).all (fun x => !x.1) && (backToKw pos (keywordEach [] X.env)).all (fun x => x.1.isSome)
      && decide ([e2].length + ([] : List Keyword).length + (if ([] : List Keyword).isEmpty then 0 else 1) < 30)) = true := by rfl)
    (hl : (apos.endLine == pos.line) = true := by rfl) : CE X W (.Call (.Attribute e "index" apos) [e2] [] pos) (cIxS ca cb) :=
  ⟨pe_wk (pe_bm PySem.F.plainAttrs_str PySem.F.slot_str_index PySem.F.type_str_index mt_sindex h.p (pa_cons h2.p pa_nil hs) hb hfew hl hs) fun σ H Q ⟨en, sc, hc, m, E, P, r, k, xo, fin⟩ =>
    ⟨en, sc, hc, m, E, _, r, k, xo, fun d hc1 p v H1 m1 x1 q => by
      cases d <;> try exact p.elim
      rename_i a
      unfold Rep at q
      subst q
      exact ⟨rfl, en, sc, hc1, m1, E, _, r.call x1, p, xo, fun d2 hc2 p2 v2 H2 m2 x2 q2 => by
        cases d2 <;> try exact p2.elim
        rename_i b
        unfold Rep at q2
        subst q2
        obtain ⟨i, rest, eo, pd⟩ := p2
        exact ⟨a, b, i, rest, rfl, rfl, eo, fin _ hc2 pd _ H2 m2 (x1.trans x2) rep_int⟩⟩⟩⟩
end
theorem e_Jn {ca cb : CEx} {E : XP} {sc : List Sl} {hc : CH} {P : D → CH → Prop} : cJn ca cb E sc hc P = ca E sc hc fun d hc1 => match d with
  | .str a => cb E sc hc1 fun d2 hc2 => match d2 with
    | .lst xs => ∃ ys : List Str, xs = ys.map D.str ∧ (ys.map (·.length)).sum + ys.length * a.length ≤ 16777216 ∧ P (.str (Txt.join a ys)) hc2
    | _ => False
  | _ => False := rfl
theorem e_IxS {ca cb : CEx} {E : XP} {sc : List Sl} {hc : CH} {P : D → CH → Prop} : cIxS ca cb E sc hc P = ca E sc hc fun d hc1 => match d with
  | .str a => cb E sc hc1 fun d2 hc2 => match d2 with
    | .str b => ∃ (i : Nat) (rest : List Nat), Builtin.Str.occurrences a b 0 a.length 1 = i :: rest ∧ P (.int (i : Int)) hc2
    | _ => False
  | _ => False := rfl
/-! ### int(text), up to 4300 signs; int(text, 16) -/
theorem lim_ok {M : Model} {A : Around} {E : Value → Shared → Prop} {s : Shared} {Q : Nat → Shared → Prop} (S : Stat s.heap) (k : Q 4300 s) : wpAny M A Builtin.intMaxStrDigits Q E s := by
  obtain ⟨⟨mc, N, z⟩, _⟩ := S
  unfold Builtin.intMaxStrDigits
  refine wpAny_bind (wpAny_nsGet N ?_)
  rw [z]
  exact wpAny_pure k
theorem wp_textL {M : Model} {A : Around} {E : Value → Shared → Prop} {s : Shared} {Q : Value → Shared → Prop} {v : Value} {text : List Nat} {n : Int} (S : Stat s.heap)
    (hs : ¬ (text.takeWhile (· != 0)).length ≤ 640) (hr : (int_private% "readNumeral") 4300 10 (text.takeWhile (· != 0)) = (int_private% "Numeral.value") n)
    (ha : ((text.takeWhile (· != 0)).length == text.length) = true) (h : Q (.int n s.toks) { s with toks := s.toks + 1 }) :
    wpAny M A ((int_private% "intFromText") v text 10) Q E s := by
  have go : ∀ {A2 : Around} {E2 : Value → Shared → Prop} {Q2 : Nat → Shared → Prop}, Q2 4300 s → wpAny M A2 Builtin.intMaxStrDigits Q2 E2 s := fun q => lim_ok S q
  obtain ⟨hp, g, d, tk, os⟩ := s
  repeat (any_goals (first
    | assumption
    | (with_reducible refine go ?_)
    | (with_reducible refine wpAny_ite_false (decide_eq_false hs) ?_)
    | (with_reducible refine wpAny_ite_true (decide_eq_true ha) ?_)
    | wp_step))
  all_goals (try rw [hr])
  all_goals (try dsimp only)
  repeat (any_goals (first
    | assumption
    | (with_reducible refine go ?_)
    | (with_reducible refine wpAny_ite_false (decide_eq_false hs) ?_)
    | (with_reducible refine wpAny_ite_true (decide_eq_true ha) ?_)
    | wp_step))
structure HidL (p : Prop) : Prop where
  out : p
set_option maxHeartbeats 4000000 in
open PySem.W.KIN in
theorem meets_textL {x : PySem.Str} {u : Tok} {n : Int} (hl : ¬ (numSeenOf x).length ≤ 640) (hx : x.length ≤ sizeLine) (hn : PySem.intText? x = some n) :
    Meets (Builtin.«int.__new__» ⟨[.type "int", .str x u], []⟩) (fun _ R s => Stat s.heap ∧ R (.ok (.ret (.int n s.toks))) { s with toks := s.toks + 1 }) := fun prog w A R s ⟨S, h⟩ => by
  have h2 : wpAny (model prog w) A.in1 (Builtin.«int.__new__» ⟨[.type "int", .str x u], []⟩) (fun fin s' => ∃ v, fin = .done (.ret v) ∧ R (.ok (.ret v)) s') (fun e s' => R (.error e) s') s := by
    have f1 := PySem.F.conv_sub_int
    have f2 := PySem.F.madeHere_int
    have f3 := str_int
    have f4 := str_idx
    have f5 := str_trunc
    have f6 : typeOf (.str x u) = pure (.type "str") := rfl
    have hr : (int_private% "readNumeral") 4300 10 (numSeenOf x) = (int_private% "Numeral.value") n ∧ ((numSeenOf x).length == (numTextOf x).length) = true := by
      rcases read4300 x hx with ⟨m, h1, h2, h3⟩ | ⟨h1, _⟩
      · rw [hn] at h1
        injection h1 with h1
        subst h1
        exact ⟨h3, h2⟩
      · rw [hn] at h1
        cases h1
    have hk := HidL.mk (And.intro S (And.intro hl hr))
    clear S hl hr hn hx
    obtain ⟨hp, g, d, tk, os⟩ := s
    repeat (any_goals (first
      | assumption
      | ((with_reducible show wpAny _ _ ((int_private% "intFromText") _ _ _) _ _ _); refine wp_textL hk.out.1 hk.out.2.1 hk.out.2.2.1 hk.out.2.2.2 ?_)
      | wp_step))
    all_goals first | exact ⟨_, rfl, h⟩ | skip
  exact wpAny_mono h2 (fun fin s' h' => by obtain ⟨v, rfl, hv⟩ := h'; exact hv) fun _ _ x => x
theorem seen_digits {x : PySem.Str} (h : PySem.NumText.AllDigits x.cps.toList) : (numSeenOf x).length = x.length := by
  obtain ⟨e1, e2⟩ := PySem.numText_signs fun c hc => Or.inr (h c hc)
  first
    | rw [e2, Array.length_toList]; rfl
    | rw [e1, Array.length_toList]; rfl
theorem call_textL {prog : Program} {w : World} {A : Around} {E : Value → Shared → Prop} {s : Shared} {Q : Value → Shared → Prop} {x : PySem.Str} {t : Tok} (S : Stat s.heap) (hd : PySem.NumText.AllDigits x.cps.toList) (h1 : x.cps.toList ≠ []) (hx : x.length ≤ 4300)
    (h : Q (.int ((PySem.NumText.digitsVal x.cps.toList : Nat) : Int) s.toks) { s with toks := s.toks + 1 }) : wpAny (model prog w) A (call (.type "int") [.str x t]) Q E s := by
  have hn := PySem.intText_digits hd h1 hx
  by_cases hl : x.length ≤ 640
  · exact PySem.W.KIN.call_text hn hl h
  · exact call_int_1 (meets_textL (by rw [seen_digits hd]; exact hl) (by rw [sizeLine_eq]; omega) hn) ⟨S, rfl, h⟩
def intTD : On := fun ds _ P => match ds with
  | [.int i] => P (.int i)
  | [.bl b] => P (.int (if b then 1 else 0))
  | [.str a] => (PySem.NumText.AllDigits a.cps.toList ∧ a.cps.toList ≠ [] ∧ a.length ≤ 4300) ∧ P (.int ((PySem.NumText.digitsVal a.cps.toList : Nat) : Int))
  | [.str a, .int 16] => ((∀ c ∈ a.cps.toList, Hx.IsHex c) ∧ a.cps.toList ≠ [] ∧ a.length ≤ 640) ∧ P (.int ((Hx.hexNum a.cps.toList : Nat) : Int))
  | _ => False
theorem bt_intT {X : Cx} (st : statK X.K = true) : CallR X (.type "int") (LVn X.K intTD) := by
  intro pins s σ H xs us Q I r h
  obtain ⟨hc, m, ds, P, w, h1, f, fin⟩ := h
  unfold intTD at f
  split at f
  · obtain ⟨x, rfl, k1⟩ := wl1 h1
    unfold RepW Rep at k1
    subst k1
    exact call_int1 pins s σ H _ us Q I r (.inl ⟨_, rfl, fin _ f _ _ (.refl H) rep_int⟩)
  · obtain ⟨x, rfl, k1⟩ := wl1 h1
    unfold RepW Rep at k1
    subst k1
    exact call_int1 pins s σ H _ us Q I r (.inr ⟨_, rfl, fin _ f _ _ (.refl H) rep_int⟩)
  · obtain ⟨x, rfl, k1⟩ := wl1 h1
    unfold RepW Rep at k1
    subst k1
    obtain ⟨⟨f1, f2, f3⟩, f4⟩ := f
    obtain ⟨u, rfl, ru⟩ := vals1 r
    obtain ⟨t, rfl⟩ := ru
    exact call_textL (stat_of I.kIn I.nolimit st) f1 f2 f3 ⟨.int _, H, I.tok _, ⟨_, rfl⟩, fin _ f4 _ _ (.refl H) rep_int⟩
  · obtain ⟨x, y, rfl, k1, k2⟩ := wl2 h1
    unfold RepW Rep at k1 k2
    subst k1; subst k2
    obtain ⟨⟨f1, f2, f3⟩, f4⟩ := f
    rename_i a
    exact call_int_hex pins s σ H _ us Q I r ⟨a.cps.toList, rfl, f2, f3, f1, fin _ f4 _ _ (.refl H) rep_int⟩
  · exact f.elim
theorem o_iT1 {i : Int} {hc : CH} {P : D → Prop} : intTD [.int i] hc P = P (.int i) := rfl
theorem o_iT2 {b : Bool} {hc : CH} {P : D → Prop} : intTD [.bl b] hc P = P (.int (if b then 1 else 0)) := rfl
theorem o_iT3 {a : Str} {hc : CH} {P : D → Prop} : intTD [.str a] hc P = ((PySem.NumText.AllDigits a.cps.toList ∧ a.cps.toList ≠ [] ∧ a.length ≤ 4300) ∧ P (.int ((PySem.NumText.digitsVal a.cps.toList : Nat) : Int))) := rfl
theorem o_iT4 {a : Str} {hc : CH} {P : D → Prop} : intTD [.str a, .int 16] hc P = (((∀ c ∈ a.cps.toList, Hx.IsHex c) ∧ a.cps.toList ≠ [] ∧ a.length ≤ 640) ∧ P (.int ((Hx.hexNum a.cps.toList : Nat) : Int))) := rfl
theorem o_mT {x : Str} {n : Int} {hc : CH} {P : D → Prop} : mulTD (.str x) (.int n) hc P = ((0 ≤ n ∧ n ≤ 1000 ∧ 0 < x.length ∧ x.length ≤ 1000) ∧ P (.str (repS x n))) := rfl
theorem o_xS {s z : Str} {hc : CH} {P : D → Prop} : inXD (.str s) (.str z) hc P = ∃ c : Nat, s = ⟨#[c]⟩ ∧ P (.bl (decide (c ∈ z.cps.toList))) := rfl
theorem o_xT {x : D} {ys : List D} {hc : CH} {P : D → Prop} : inXD x (.tup ys) hc P = inD x (.tup ys) hc P := rfl
theorem o_xL {x : D} {ys : List D} {hc : CH} {P : D → Prop} : inXD x (.lst ys) hc P = inD x (.lst ys) hc P := rfl
end Mn

namespace Mn
open PySem PySem.Spec PyProof.Rows L2
/-! ### the law's entry, with the tables of the defs' code objects -/
abbrev tab0 : Obj := { cls := .none, data := .fields #[] }
abbrev tabA (K : PySem.W.Frag) : List Addr := (tabsL K).map (·.1)
/-- the script, and empty tables -/
def OnlyT (K : PySem.W.Frag) (H : Hp) : Prop := ∀ b, H b = none ∨ (b ∈ tabA K ∧ H b = some (.tbl #[])) ∨ ∃ o xs, H b = some (.frz o (.lst xs))
theorem law_inT {K : PySem.W.Frag} {mg : Str → Option Value} {H : Hp} {a : Addr} {ns : List Int} {E : XK} (hl : ns.length ≤ 63) (hO : OnlyT K H) (hT : ∀ b ∈ tabA K, H b = some (.tbl #[])) (hS : SqL K H a (ns.map V.int)) : toSp K mg spLaw [.ref a] H (fun v _ => v = .bl true) E := by
  refine ⟨fun _ => none, fun _ => False, [.frz (ns.map D.int)], fun d _ => d = .bl true, fun _ _ => False, ⟨fun p hp => .nil (hT _ (List.mem_map_of_mem hp)), fun _ z => z.elim, fun _ _ z => (nomatch z), fun _ _ z => (nomatch z)⟩, RepL.cons ?_ RepL.nil, ⟨ns, rfl, hl, fun _ => rfl⟩, fun d hc' e v H' m' x q => ?_, fun _ _ z => z.elim⟩
  · unfold Rep
    refine ⟨a, _, rfl, ?_, repl_ints ns⟩
    rcases hS with (h | ⟨o, h⟩) | h
    · rcases hO a with y | ⟨_, y⟩ | ⟨o, xs, y⟩ <;> (rw [h] at y; cases y)
    · exact .inl ⟨o, h⟩
    · exact .inr h
  · subst e
    unfold Rep at q
    exact q
/-- what the making of lambdas asks of the ground -/
def BaseT (K : PySem.W.Frag) (mg : Str → Option Value) (base : Heap) : Prop := ∀ b ∈ tabA K, base.BuiltinsAt mg b ∧ mainGlobals ≠ b
/-- each table's code object is known -/
theorem tab_code {K : PySem.W.Frag} {b : Addr} (h : b ∈ tabA K) : ∃ c, PySem.W.codeHdIn K c b = true := by
  obtain ⟨p, hp, rfl⟩ := List.mem_map.mp h
  obtain ⟨⟨f, o⟩, _, e⟩ := List.mem_filterMap.mp hp
  unfold tabD at e
  split at e
  · split at e
    · rename_i c _
      by_cases z : PySem.W.codeHdIn K c (He.tabOf K c) = true
      · rw [if_pos z] at e
        cases e
        exact ⟨c, z⟩
      · rw [if_neg z] at e; cases e
    · cases e
  · cases e
section
variable {P : Program} {w : World} {K : PySem.W.Frag} {mg mb : Str → Option Value} {C : CXT} {k : Nat} {fa a : Addr} {fd : FuncData} {x : Str} {sp : Sp} {s : Shared} {vs : List Value} {ns : List Int}
theorem law_fromT (KX : K.In s.heap) (hns : s.heap.Ns mainGlobals mg) (hb : s.heap.Ns builtinsNs mb) (hbb : ∀ x : Str, x ≠ "__name__" → mb x = bootBuiltins x) (hlim : s.heap.NoLimit) (hg : s.gens = #[])
    (hbm : ∃ bm ob, mg "__builtins__" = some (.ref bm) ∧ bm ≠ builtinsNs ∧ s.heap.get? bm = some ob ∧ ob.cls = .type "module" ∧ ob.dict = some builtinsNs ∧ ob.data = .plain)
    (ht : ∀ b ∈ tabA K, s.heap.get? b = some tab0 ∧ K.lookup b = none) (ha : s.heap.get? a = some { cls := .type "list", data := .seq vs.toArray }) (hr : Room k callerA)
    (F : ∀ base : Heap, K.In base → base.Ns mainGlobals mg → BaseT K mg base → FnG P w K mg base C k fa fd [x] sp) (hbind : ∀ (s : Shared) (u : Value), BindsTo s fd ⟨[u], []⟩ [(x, u)])
    (hsp : ∀ H : Hp, OnlyT K H → (∀ b ∈ tabA K, H b = some (.tbl #[])) → SqL K H a (ns.map V.int) → sp [.ref a] H (fun v _ => v = .bl true) fun _ _ _ => False) (hCX : ∀ H e s', C [] H s (fun _ _ _ => False) e s' → False)
    (H : Hp) (hO : OnlyT K H) (hT : ∀ b ∈ tabA K, H b = some (.tbl #[])) (hS : SqL K H a (ns.map V.int)) (hok : HOk P w H s.heap) (hA : ∀ b, H b ≠ none → b = a ∨ b ∈ tabA K) (hK : H a ≠ none → K.lookup a = none) :
    codeAny (model P w) callerA (.call (.ref fa) ⟨[.ref a], []⟩) (fun r z => r = .ok (.ret (.bool true)) ∧ OldK s.heap z.heap ∧ z.os = s.os ∧ AllBare z.gens) s := by
  have hid : ∀ {b : Addr} {o : Obj}, s.heap.get? b = some o → H b = none → (hidT s.heap H).get? b = some o := fun e n => hidT_get e n
  have plain : ∀ {b : Addr} {o : Obj}, s.heap.get? b = some o → (∀ us n, o.data = .seq us n → False) → (o.data = .fields #[] → False) → H b = none := fun {b o} e n1 n2 => by
    cases q : H b with
    | none => rfl
    | some u =>
      rcases hA b (by rw [q]; simp) with z | z
      · subst z
        rw [ha] at e; cases e
        exact (n1 _ _ rfl).elim
      · rw [(ht b z).1] at e; cases e
        exact (n2 rfl).elim
  have noDict : ∀ {b : Addr} {o : Obj} {es : Array DictEntry} {ep : Nat}, s.heap.get? b = some o → o.data = .dict es ep → H b = none := fun {b o es ep} e d =>
    plain e (fun us n z => by rw [d] at z; cases z) fun z => by rw [d] at z; cases z
  have ns2 : ∀ {b : Addr} {m : Str → Option Value}, s.heap.Ns b m → (hidT s.heap H).Ns b m := fun ⟨o, es, ep, e, d, r⟩ => ⟨o, es, ep, hid e (noDict e d), d, r⟩
  have Kin : K.In (hidT s.heap H) := fun b o e => hid (KX b o e) (by
    cases q : H b with
    | none => rfl
    | some u =>
      have nn : H b ≠ none := by rw [q]; simp
      rcases hA b nn with z | z
      · subst z
        rw [hK nn] at e; cases e
      · rw [(ht b z).2] at e; cases e)
  have M : Mod K mg (hidT s.heap H) := ⟨Kin, ns2 hns, ⟨mb, ns2 hb, hbb⟩, hlim.imp fun mc h => ⟨ns2 h.1, h.2⟩⟩
  have e0 : Env0 P w K mg (hidT s.heap H) callerA [] s H := ⟨rfl, M, fun b o e => of_hidT e, Nat.le_of_eq (hidT_size _ _), trivial, fun b z => (List.not_mem_nil (show b ∈ ([] : List Addr) from z)).elim, hok, .of_eq hg⟩
  have B : BaseT K mg (hidT s.heap H) := fun b hb => by
    obtain ⟨bm, ob, b1, b2, b3, b4, b5, b6⟩ := hbm
    have e := (ht b hb).1
    have ng : mainGlobals ≠ b := fun z => by
      obtain ⟨o, es, ep, e2, d, _⟩ := hns
      rw [z, e] at e2; cases e2; cases d
    refine ⟨⟨bm, ob, b1, b2, fun z => ?_, fun z => ?_, hid b3 (plain b3 (fun us n z => by rw [b6] at z; cases z) fun z => by rw [b6] at z; cases z), b4, b5, b6⟩, ng⟩
    · obtain ⟨o, es, ep, e2, d, _⟩ := hns
      rw [z, e2] at b3; cases b3
      rw [b6] at d; cases d
    · rw [z, e] at b3; cases b3
      cases b6
  refine codeAny_mono ((F _ Kin (ns2 hns) B).run callerA [] s H ⟨[.ref a], []⟩ [.ref a] [.ref a] _ _ (callerG hr) e0 (hbind s (.ref a)) (.cons rfl .nil) (hsp H hO hT hS)) fun r z h => ?_
  match r, h with
  | .error e, h => exact (hCX H e z h).elim
  | .ok .next, h => exact False.elim h
  | .ok .brk, h => exact False.elim h
  | .ok .cont, h => exact False.elim h
  | .ok (.ret u), ⟨v, H', os, bare, un, hok2, rel, q⟩ =>
    have qv : v = .bl true := q
    subst qv
    cases (show u = Value.bool true from rel)
    have same : ∀ {b : Addr} {o : Obj}, s.heap.get? b = some o → b ∉ tabA K → z.heap.get? b = some o := fun {b o} e nt => by
      rcases hO b with q | ⟨q, _⟩ | ⟨ob, xs, q⟩
      · exact un.keep b o e q (fun z => List.not_mem_nil (show b ∈ ([] : List Addr) from z)) (fun z => List.not_mem_nil z)
      · exact absurd q nt
      · obtain ⟨e1, _⟩ := hok b _ q
        rw [e] at e1
        cases e1
        exact (hok2 b _ (un.frzs b _ _ q)).1
    have grew : ∀ {b : Addr}, b ∈ tabA K → ∃ more : Array Value, z.heap.get? b = some { cls := .none, data := .fields more } := fun {b} hb => by
      obtain ⟨more, e⟩ := un.tbls b #[] (hT b hb)
      exact ⟨_, hok2 b _ e⟩
    refine ⟨rfl, ⟨fun b o e => ?_, fun b o e => ?_⟩, os, bare⟩
    · by_cases hb : b ∈ tabA K
      · obtain ⟨more, e2⟩ := grew hb
        obtain ⟨c, hc⟩ := tab_code hb
        have e3 := (ht b hb).1
        rw [e] at e3; cases e3
        exact .inr (.inl ⟨((PySem.W.codeHd_of_K KX hc).tab (ht b hb).1).isCodeTable, rfl, #[], more, rfl, by rw [Array.empty_append]; exact e2⟩)
      · exact .inl (same e hb)
    · by_cases hb : b ∈ tabA K
      · obtain ⟨more, e2⟩ := grew hb
        exact ⟨_, e2⟩
      · exact ⟨o, same e hb⟩
theorem lawT (KX : K.In s.heap) (hns : s.heap.Ns mainGlobals mg) (hb : s.heap.Ns builtinsNs mb) (hbb : ∀ x : Str, x ≠ "__name__" → mb x = bootBuiltins x) (hlim : s.heap.NoLimit) (hg : s.gens = #[])
    (hbm : ∃ bm ob, mg "__builtins__" = some (.ref bm) ∧ bm ≠ builtinsNs ∧ s.heap.get? bm = some ob ∧ ob.cls = .type "module" ∧ ob.dict = some builtinsNs ∧ ob.data = .plain)
    (ht : ∀ b ∈ tabA K, s.heap.get? b = some tab0 ∧ K.lookup b = none) (ha : s.heap.get? a = some { cls := .type "list", data := .seq vs.toArray })
    (hi : IntsAre vs ns) (hl : ns.length ≤ sizeLine) (hr : Room k callerA) (F : ∀ base : Heap, K.In base → base.Ns mainGlobals mg → BaseT K mg base → FnG P w K mg base C k fa fd [x] sp) (hbind : ∀ (s : Shared) (u : Value), BindsTo s fd ⟨[u], []⟩ [(x, u)])
    (hsp : ∀ H : Hp, OnlyT K H → (∀ b ∈ tabA K, H b = some (.tbl #[])) → SqL K H a (ns.map V.int) → sp [.ref a] H (fun v _ => v = .bl true) fun _ _ _ => False) (hCX : ∀ H e s', C [] H s (fun _ _ _ => False) e s' → False) :
    codeAny (model P w) callerA (.call (.ref fa) ⟨[.ref a], []⟩) (fun r z => r = .ok (.ret (.bool true)) ∧ OldK s.heap z.heap ∧ z.os = s.os ∧ AllBare z.gens) s := by
  have rv := vals_ints hi
  have na : a ∉ tabA K := fun z => by
    have e := (ht a z).1
    rw [ha] at e; cases e
  let H0 : Hp := fun b => if b ∈ tabA K then some (.tbl #[]) else none
  have H0t : ∀ b, b ∈ tabA K → H0 b = some (.tbl #[]) := fun b h => if_pos h
  have H0n : ∀ b, b ∉ tabA K → H0 b = none := fun b h => if_neg h
  cases hk : K.lookup a with
  | some o =>
    have e := KX a o hk
    rw [ha] at e; cases e
    refine law_fromT KX hns hb hbb hlim hg hbm ht ha hr F hbind hsp hCX H0 (fun b => ?_) H0t (.inr ⟨_, vs.toArray, _, hk, rfl, rfl, rfl, by rw [List.size_toArray, hi.length]; exact hl, by simpa using rv⟩) (fun b u z => ?_) (fun b z => ?_) fun z => absurd (H0n a na) z
    · by_cases h : b ∈ tabA K
      · exact .inr (.inl ⟨h, H0t b h⟩)
      · exact .inl (H0n b h)
    · by_cases h : b ∈ tabA K
      · rw [H0t b h] at z; cases z
        exact (ht b h).1
      · rw [H0n b h] at z; cases z
    · exact .inr (Classical.byContradiction fun h => z (H0n b h))
  | none =>
    let H : Hp := fun b => if b = a then some (.frz { cls := .type "list", data := .seq vs.toArray } (.lst (ns.map V.int))) else H0 b
    have Ha : H a = some (.frz { cls := .type "list", data := .seq vs.toArray } (.lst (ns.map V.int))) := if_pos rfl
    have Hn : ∀ b, b ≠ a → H b = H0 b := fun b n => if_neg n
    have nt : ∀ b, b ∈ tabA K → b ≠ a := fun b h z => na (z ▸ h)
    refine law_fromT KX hns hb hbb hlim hg hbm ht ha hr F hbind hsp hCX H (fun b => ?_) (fun b h => by rw [Hn b (nt b h)]; exact H0t b h) (.inl (.inr ⟨_, Ha⟩)) (fun b u z => ?_) (fun b z => ?_) fun _ => hk
    · by_cases h : b = a
      · exact .inr (.inr (by rw [h]; exact ⟨_, _, Ha⟩))
      · rw [Hn b h]
        by_cases h2 : b ∈ tabA K
        · exact .inr (.inl ⟨h2, H0t b h2⟩)
        · exact .inl (H0n b h2)
    · by_cases h : b = a
      · subst h
        rw [Ha] at z; cases z
        exact ⟨ha, by rw [List.length_map]; exact hl, vs, _, rv, ha⟩
      · rw [Hn b h] at z
        by_cases h2 : b ∈ tabA K
        · rw [H0t b h2] at z; cases z
          exact (ht b h2).1
        · rw [H0n b h2] at z; cases z
    · by_cases h : b = a
      · exact .inl h
      · exact .inr (Classical.byContradiction fun h2 => z (by rw [Hn b h]; exact H0n b h2))
end
theorem walkT {l : PySem.W.OpenLaw} {n k : Nat} {q : Program} {loose : List Str} {XP : (Str → Option Value) → Heap → Prop} {YP : World → Heap → Prop} {d : DefRec} {x : Str} (hn : l.most = some n) (hn2 : n ≤ sizeLine) (hdf : d.params.defaults = []) (hr : Room k callerA)
    (F : ∀ (w : World) (mg : Str → Option Value) (fa : Addr) (h : Heap), YP w h → h.Ns mainGlobals mg → mg d.name = some (.ref fa) → ∃ (K : PySem.W.Frag) (fd : FuncData) (sp : Sp), K.In h ∧ (∀ b ∈ tabA K, h.get? b = some tab0 ∧ K.lookup b = none) ∧ (∀ (s : Shared) (u : Value), BindsTo s fd ⟨[u], []⟩ [(x, u)]) ∧
      (∀ (H : Hp) (a : Addr) (ns : List Int), ns.length ≤ n → OnlyT K H → (∀ b ∈ tabA K, H b = some (.tbl #[])) → SqL K H a (ns.map V.int) → sp [.ref a] H (fun v _ => v = .bl true) fun _ _ _ => False) ∧
      ∀ base : Heap, K.In base → base.Ns mainGlobals mg → BaseT K mg base → FnG l.prog w K mg base (L2.CX l.prog w) k fa fd [x] sp) : PySem.W.WalkO q loose XP YP l.row.toRowW d [] (fun f vs => PySem.call f vs) :=
  Att.attach_call hn hdf fun w s₀ s₁ mg mb fa o pm cd doc a vs ns G Y ho hd hcd hmg hobj hints hlen hg => by
    obtain ⟨K, fd, sp, KX, ht, hb, hsp, hF⟩ := F w mg fa _ Y G.T.g hmg
    exact lawT KX G.T.g G.T.b G.T.builtins G.T.nolimit hg G.T.bmain ht hobj hints (Nat.le_trans hlen hn2) hr hF hb (fun H hO hT hS => hsp H a ns hlen hO hT hS) fun H e s' ⟨_, _, _, _, _, _, _, _, _, _, _, _, z⟩ => z
/-- the end of a law -/
theorem law_finT {P : Program} {w : World} {K : PySem.W.Frag} {mg : Str → Option Value} {h : Heap} {fa : Addr} {k : Nat} {x : Str} {st : Stmt} (KX : K.In h) (ht : ∀ b ∈ tabA K, h.get? b = some tab0 ∧ K.lookup b = none) (T : DefAt K mg "law" st) (hmg : mg "law" = some (.ref fa))
    (hbi : ∀ (kV doc pm : Value) (an : Option Addr) (cdv ct : Value) (us : List Value), us.length = ([x] : List Str).length → bindArgs (PySem.W.fnOf "law" "law" (defArgs st) (defBody st) (defScope st) .none kV doc pm an cdv ct) ⟨us, []⟩ = pure (([x] : List Str).zip us))
    (A : ∀ base : Heap, K.In base → BaseT K mg base → FnAt P w K mg base k "law" [x] spLaw) :
    ∃ (K : PySem.W.Frag) (fd : FuncData) (sp : Sp), K.In h ∧ (∀ b ∈ tabA K, h.get? b = some tab0 ∧ K.lookup b = none) ∧ (∀ (s : Shared) (u : Value), BindsTo s fd ⟨[u], []⟩ [(x, u)]) ∧
        (∀ (H : Hp) (a : Addr) (ns : List Int), ns.length ≤ 63 → OnlyT K H → (∀ b ∈ tabA K, H b = some (.tbl #[])) → SqL K H a (ns.map V.int) → sp [.ref a] H (fun v _ => v = .bl true) fun _ _ _ => False) ∧
        ∀ base : Heap, K.In base → base.Ns mainGlobals mg → BaseT K mg base → FnG P w K mg base (L2.CX P w) k fa fd [x] sp := by
  obtain ⟨f, fd, F, hf⟩ := T
  have e : f = fa := by
    rw [hmg] at hf; cases hf; rfl
  subst e
  refine ⟨K, fd, toSp K mg spLaw, KX, ht, fun s u => F.bindsA hbi s [u] rfl, fun H a ns hl hO hT hS => law_inT hl hO hT hS, fun base KB _ B => ?_⟩
  obtain ⟨f', fd', G, hf', _, _, oc, od, osl, lk⟩ := A base KB B
  have e : f' = f := by
    rw [hmg] at hf'; cases hf'; rfl
  subst e
  obtain ⟨oc2, od2, dV, kV, doc, pm, an, cdv, ct, osl2, e2, lk2, _⟩ := F.ex
  rw [lk] at lk2
  cases lk2
  exact G
/-! ### the hook -/
def tabsB (g : Addr → Option Obj) (K : PySem.W.Frag) : Bool := ((tabA K).all fun b => match g b with
  | some o => He.emptyTab o
  | none => false) && decide (tabA K).Nodup
def obsT (g : Addr → Option Obj) (fa : List He.Fa) (fn : List He.DefD) (tc : TupC) (K : PySem.W.Frag) : He.AlD × Bool := (He.obsD fa fn K, (statK K && tc.all fun t => tupN K t.1 t.2) && tabsB g K)
def obsTG (n : Nat) (fa : List He.Fa) (fn : List He.DefD) (tc : TupC) (g : Addr → Option Obj) : He.AlD × Bool := obsT g fa fn tc (He.frT g (He.asD g n ++ [sysModules, cStatics]))
/-- what the head leaves -/
def SaysT (fa : List He.Fa) (fn : List He.DefD) (tc : TupC) (K : PySem.W.Frag) (h : Heap) : Prop := SaysU fa fn tc K ∧ (tabA K).Nodup ∧ ∀ b ∈ tabA K, h.get? b = some tab0 ∧ K.lookup b = none
theorem saysT_of {n : Nat} {fa : List He.Fa} {fn : List He.DefD} {tc : TupC} {s : Shared} (e : obsTG n fa fn tc s.heap.get? = (He.valD fn, true)) : SaysT fa fn tc (He.frT s.heap.get? (He.asD s.heap.get? n ++ [sysModules, cStatics])) s.heap := by
  have e1 := congrArg (fun z : He.AlD × Bool => z.1) e
  have e2 : ((statK (He.frT s.heap.get? (He.asD s.heap.get? n ++ [sysModules, cStatics])) && tc.all fun t => tupN (He.frT s.heap.get? (He.asD s.heap.get? n ++ [sysModules, cStatics])) t.1 t.2) && tabsB s.heap.get? (He.frT s.heap.get? (He.asD s.heap.get? n ++ [sysModules, cStatics]))) = true := congrArg (fun z : He.AlD × Bool => z.2) e
  rw [Bool.and_eq_true] at e2
  obtain ⟨e2, e3⟩ := e2
  unfold tabsB at e3
  rw [Bool.and_eq_true] at e3
  refine ⟨Prod.ext e1 e2, of_decide_eq_true e3.2, fun b hb => ?_⟩
  have e4 := List.all_eq_true.mp e3.1 b hb
  cases q : s.heap.get? b with
  | none => rw [q] at e4; cases e4
  | some o =>
    rw [q] at e4
    have e4 : He.emptyTab o = true := e4
    exact ⟨by rw [He.emptyTab_eq e4], He.frT_none q e4⟩
end Mn

namespace Mn
open PySem PySem.Spec PyProof.Rows L2 NdefX
/-! ### cells lent to a callee: frozen while it runs -/
abbrev xT : HO := .ext fun _ => True
structure Lent (S : Addr → Option Obj) (H0 H1 : Hp) : Prop where
  inn : ∀ b o, S b = some o → H0 b = none ∧ H1 b = some (.frz o xT)
  out : ∀ b, S b = none → H1 b = H0 b
def lendH (S : Addr → Option Obj) (H : Hp) : Hp := fun b => match S b with
  | some o => some (.frz o xT)
  | none => H b
def giveH (S : Addr → Option Obj) (H : Hp) : Hp := fun b => match S b with
  | some _ => none
  | none => H b
theorem Lent.lend {S : Addr → Option Obj} {H : Hp} (h : ∀ b o, S b = some o → H b = none) : Lent S H (lendH S H) :=
  ⟨fun b o e => ⟨h b o e, by unfold lendH; rw [e]⟩, fun b e => by unfold lendH; rw [e]⟩
theorem Lent.give {S : Addr → Option Obj} {H : Hp} (h : ∀ b o, S b = some o → H b = some (.frz o xT)) : Lent S (giveH S H) H :=
  ⟨fun b o e => ⟨by unfold giveH; rw [e], h b o e⟩, fun b e => by unfold giveH; rw [e]⟩
/-- all but lent things are the same -/
def Agr (H H' : Hp) : Prop := ∀ b o, H b = some o → (∀ ob φ, o ≠ .frz ob (.ext φ)) → H' b = some o
section
variable {S : Addr → Option Obj} {H0 H1 H0' H1' : Hp}
theorem Lent.some0 (L : Lent S H0 H1) {b : Addr} {o : HO} (e : H0 b = some o) : S b = none := by
  cases q : S b with
  | none => rfl
  | some ob => rw [(L.inn b ob q).1] at e; cases e
theorem Lent.up (L : Lent S H0 H1) {b : Addr} {o : HO} (e : H0 b = some o) : H1 b = some o := by rw [L.out b (L.some0 e)]; exact e
theorem Lent.none1 (L : Lent S H0 H1) {b : Addr} (e : H1 b = none) : H0 b = none := by
  cases q : S b with
  | none => rw [← L.out b q]; exact e
  | some ob => exact (L.inn b ob q).1
theorem Lent.agU (L : Lent S H0 H1) : Agr H0 H1 := fun _ _ e _ => L.up e
theorem Lent.down (L : Lent S H0 H1) {b : Addr} {o : HO} (e : H1 b = some o) (n : ∀ ob φ, o ≠ .frz ob (.ext φ)) : H0 b = some o := by
  cases q : S b with
  | none => rw [← L.out b q]; exact e
  | some ob =>
    rw [(L.inn b ob q).2] at e
    exact absurd (Option.some.inj e).symm (n _ _)
theorem Lent.agD (L : Lent S H0 H1) : Agr H1 H0 := fun _ _ e n => L.down e n
end
theorem sqt_agr {K : PySem.W.Frag} {H H' : Hp} {p : Addr} {vs : List V} (a : Agr H H') (h : SqT K H p vs) : SqT K H' p vs := by
  rcases h with (h | ⟨o, h⟩) | h
  · exact .inl (.inl (a _ _ h fun _ _ z => by cases z))
  · exact .inl (.inr ⟨o, a _ _ h fun _ _ z => by cases z⟩)
  · exact .inr h
theorem code_ne {c : Addr} {q : Str} : ∀ ob φ, LamX.CodeO c q ≠ .frz ob (.ext φ) := fun ob φ z => by unfold LamX.CodeO at z; cases z
theorem FnVal.agr {K : PySem.W.Frag} {H H' : Hp} {f : Addr} (a : Agr H H') (h : FnVal K H f) : FnVal K H' f := by
  rcases h with ⟨o, fd, c, e1, e2, e3, e4⟩ | h
  · exact .inl ⟨o, fd, c, a _ _ e1 fun _ _ z => (by cases z), e2, e3, a _ _ e4 code_ne⟩
  · exact .inr h
mutual
theorem Rep.agr {K : PySem.W.Frag} {H H' : Hp} {m : Ms} (a : Agr H H') : ∀ (d : D) (v : V), Rep K H m d v → Rep K H' m d v
  | .non, v, h => by unfold Rep at h ⊢; exact h
  | .bl _, v, h => by unfold Rep at h ⊢; exact h
  | .int _, v, h => by unfold Rep at h ⊢; exact h
  | .str _, v, h => by unfold Rep at h ⊢; exact h
  | .ref _, v, h => by unfold Rep at h ⊢; exact h
  | .tup xs, v, h => by
    unfold Rep at h ⊢
    obtain ⟨p, vs, e, q, r⟩ := h
    exact ⟨p, vs, e, sqt_agr a q, RepL.agr a xs vs r⟩
  | .lst xs, v, h => by
    unfold Rep at h ⊢
    obtain ⟨p, vs, e, n, q, r⟩ := h
    exact ⟨p, vs, e, n, a _ _ q fun _ _ z => (by cases z), RepL.agr a xs vs r⟩
  | .dct ks ds, v, h => by
    unfold Rep at h ⊢
    obtain ⟨p, vs, e, n, q, l, r⟩ := h
    exact ⟨p, vs, e, n, a _ _ q fun _ _ z => (by cases z), l, RepL.agr a ds vs r⟩
  | .frz xs, v, h => by
    unfold Rep at h ⊢
    obtain ⟨p, vs, e, q, r⟩ := h
    refine ⟨p, vs, e, ?_, RepL.agr a xs vs r⟩
    rcases q with ⟨o, q⟩ | q
    · exact .inl ⟨o, a _ _ q fun _ _ z => by cases z⟩
    · exact .inr q
  | .clo f ws xs, v, h => by
    unfold Rep at h ⊢
    exact ⟨h.1, h.2.1.agr a, RepL.agr a xs ws h.2.2⟩
  | .fn _, v, h => by unfold Rep at h ⊢; exact h
  | .exn e dx ns xs, v, h => by
    unfold Rep at h ⊢
    obtain ⟨h1, vs, q, r⟩ := h
    refine ⟨h1, vs, q.imp id fun ⟨p, fs, e1, e2, e3⟩ => ⟨p, fs, e1, a _ _ e2 fun _ _ z => (by cases z), e3⟩, RepL.agr a xs vs r⟩
theorem RepL.agr {K : PySem.W.Frag} {H H' : Hp} {m : Ms} (a : Agr H H') : ∀ (ds : List D) (vs : List V), RepL K H m ds vs → RepL K H' m ds vs
  | [], vs, h => by unfold RepL at h ⊢; exact h
  | d :: ds, vs, h => by
    unfold RepL at h ⊢
    obtain ⟨v, r, e, h1, h2⟩ := h
    exact ⟨v, r, e, Rep.agr a d v h1, RepL.agr a ds r h2⟩
end
theorem tabs_agr {T : List (Addr × Str)} {H H' : Hp} (a : Agr H H') (t : LamX.Tabs T H) : LamX.Tabs T H' := fun p hp => by
  obtain ⟨ps, h1, h2, h3⟩ := t p hp
  refine ⟨ps, a _ _ h1 fun _ _ z => (by cases z), h2, fun pos cv hc => ?_⟩
  obtain ⟨c, e1, e2⟩ := h3 pos cv hc
  exact ⟨c, e1, a _ _ e2 code_ne⟩
theorem Wd.agr {K : PySem.W.Frag} {H H' : Hp} {hc : CH} {m : Ms} (a : Agr H H') (w : Wd K H hc m) : Wd K H' hc m :=
  ⟨tabs_agr a w.tab, fun b z => let ⟨vs, e⟩ := w.mu b z; ⟨vs, a _ _ e fun _ _ z => by cases z⟩, w.hm, fun b ds e => let ⟨vs, e1, r⟩ := w.heap b ds e; ⟨vs, a _ _ e1 fun _ _ z => (by cases z), RepL.agr a _ _ r⟩⟩
section
variable {S : Addr → Option Obj} {H0 H1 H0' H1' : Hp} {K : PySem.W.Frag} {hc hc' : CH} {m m' : Ms}
theorem Lent.exD (L : Lent S H0 H1) (L' : Lent S H0' H1') (x : Ex K ⟨H1, hc, m⟩ H1' hc' m') : Ex K ⟨H0, hc, m⟩ H0' hc' m' := by
  refine ⟨x.toWd.agr L'.agD, fun b z => ?_, x.ehm, fun p o e t n => ?_, fun p z => ?_, x.hold, fun p ds e => ?_, fun p o e => ?_⟩
  · obtain ⟨vs, e⟩ := x.emut b z
    exact ⟨vs, L.down e fun _ _ z => by cases z⟩
  · have e : H0 p = some o := e
    have q := x.keep p o (L.up e) t n
    rw [L'.out p (L.some0 e)] at q
    exact q
  · exact (x.grow p z).imp id fun y => L.none1 y
  · exact (x.hgrow p ds e).imp id fun y => L.none1 y
  · have e : H0 p = some o := e
    have q := x.live p o (L.up e)
    rw [L'.out p (L.some0 e)] at q
    exact q
theorem Lent.exU (L : Lent S H0 H1) (L' : Lent S H0' H1') (x : Ex K ⟨H0, hc, m⟩ H0' hc' m') : Ex K ⟨H1, hc, m⟩ H1' hc' m' := by
  have notS : ∀ p, m' p → S p = none := fun p z => by
    obtain ⟨vs, e⟩ := x.mu p z
    exact L'.some0 e
  refine ⟨x.toWd.agr L'.agU, fun b z => ?_, x.ehm, fun p o e t n => ?_, fun p z => ?_, x.hold, fun p ds e => ?_, fun p o e => ?_⟩
  · obtain ⟨vs, e⟩ := x.emut b z
    exact ⟨vs, L.up e⟩
  · have e : H1 p = some o := e
    cases q : S p with
    | none =>
      rw [L.out p q] at e
      exact L'.up (x.keep p o e t n)
    | some ob =>
      rw [(L.inn p ob q).2] at e
      rw [(L'.inn p ob q).2]
      exact e
  · refine (x.grow p z).imp id fun y => ?_
    show H1 p = none
    rw [L.out p (notS p z)]
    exact y
  · refine (x.hgrow p ds e).imp id fun y => ?_
    show H1 p = none
    rw [L.out p (notS p (x.hm p ds e))]
    exact y
  · have e : H1 p = some o := e
    cases q : S p with
    | none =>
      rw [L.out p q] at e
      rw [L'.out p q]
      exact x.live p o e
    | some ob =>
      rw [(L'.inn p ob q).2]
      simp
variable {P : Program} {w : World} {h h' : Heap} {fs : List Addr}
theorem Lent.okU (L : Lent S H0 H1) (at_ : ∀ b o, S b = some o → h.get? b = some o) (k : HOk P w H0 h) : HOk P w H1 h := fun b o e => by
  cases q : S b with
  | none =>
    rw [L.out b q] at e
    exact (k b o e).stay (fun _ _ _ r => r) (fun _ r => L.up r) fun _ _ r => L.up r
  | some ob =>
    rw [(L.inn b ob q).2] at e
    cases e
    exact ⟨at_ b ob q, trivial, ⟨_, at_ b ob q⟩, fun _ _ _ _ => trivial⟩
theorem Lent.okD (L : Lent S H0 H1) (k : HOk P w H1 h) : HOk P w H0 h := fun b o e =>
  (k b o (L.up e)).stay (fun _ _ _ r => r) (fun _ r => L.down r fun _ _ z => by cases z) fun _ _ r => L.down r fun _ _ z => by cases z
theorem Lent.at1 (L : Lent S H0 H1) (k : HOk P w H1 h) {b : Addr} {o : Obj} (e : S b = some o) : h.get? b = some o := (k b _ (L.inn b o e).2).1
theorem Lent.unD (L : Lent S H0 H1) (L' : Lent S H0' H1') (nf : ∀ b o, S b = some o → b ∉ fs) (a : ∀ b o, S b = some o → h.get? b = some o ∧ h'.get? b = some o) (u : Un fs [] H1 H1' h h') : Un fs [] H0 H0' h h' := by
  refine ⟨fun b o e n hb hx => ?_, fun b o e n hb hx => ?_, fun b o e n hx => ?_, u.there, fun b xs e => ?_, fun b o x e => ?_, fun b ps e => ?_⟩
  · cases q : S b with
    | none => exact u.keep b o e (by rw [L.out b q]; exact n) hb hx
    | some ob =>
      obtain ⟨e1, e2⟩ := a b ob q
      rw [e] at e1; cases e1
      exact e2
  · cases q : S b with
    | none => exact u.slot b o e (by rw [L.out b q]; exact n) hb hx
    | some ob => exact absurd hb (nf b ob q)
  · cases q : S b with
    | none => exact L'.none1 (u.free b o e (by rw [L.out b q]; exact n) hx)
    | some ob => exact (L'.inn b ob q).1
  · have z := u.tups b xs (L.up e)
    rw [L'.out b (L.some0 e)] at z
    exact z
  · have z := u.frzs b o x (L.up e)
    rw [L'.out b (L.some0 e)] at z
    exact z
  · obtain ⟨more, z⟩ := u.tbls b ps (L.up e)
    rw [L'.out b (L.some0 e)] at z
    exact ⟨more, z⟩
theorem Lent.unU (L : Lent S H0 H1) (L' : Lent S H0' H1') (u : Un fs [] H0 H0' h h') : Un fs [] H1 H1' h h' := by
  have n0 : ∀ {b : Addr}, H1 b = none → S b = none := fun {b} n => by
    cases q : S b with
    | none => rfl
    | some ob => rw [(L.inn b ob q).2] at n; cases n
  refine ⟨fun b o e n hb hx => u.keep b o e (L.none1 n) hb hx, fun b o e n hb hx => u.slot b o e (L.none1 n) hb hx, fun b o e n hx => ?_, u.there, fun b xs e => ?_, fun b o x e => ?_, fun b ps e => ?_⟩
  · rw [L'.out b (n0 n)]
    exact u.free b o e (L.none1 n) hx
  · exact L'.up (u.tups b xs (L.down e fun _ _ z => by cases z))
  · cases q : S b with
    | none =>
      rw [L.out b q] at e
      exact L'.up (u.frzs b o x e)
    | some ob =>
      rw [(L.inn b ob q).2] at e
      cases e
      exact (L'.inn b _ q).2
  · obtain ⟨more, z⟩ := u.tbls b ps (L.down e fun _ _ z => by cases z)
    exact ⟨more, L'.up z⟩
end
section
variable {S : Addr → Option Obj} {H0 H1 H0' H1' : Hp} {P : Program} {w : World} {h B h' : Heap} {fs : List Addr}
theorem Lent.ubD (L : Lent S H0 H1) (L' : Lent S H0' H1') (nf : ∀ b o, S b = some o → b ∉ fs) (a : ∀ b o, S b = some o → h.get? b = some o ∧ B.get? b = some o) (u : UB fs H1 H1' h B h') : UB fs H0 H0' h B h' := by
  refine ⟨fun b o e n hb => ?_, u.slot, fun b o e n => ?_, u.there, fun b xs e => ?_, fun b o x e => ?_, fun b ps e => ?_⟩
  · cases q : S b with
    | none => exact u.keep b o e (by rw [L.out b q]; exact n) hb
    | some ob =>
      obtain ⟨e1, e2⟩ := a b ob q
      rw [e] at e1; cases e1
      exact e2
  · cases q : S b with
    | none => exact L'.none1 (u.free b o e (by rw [L.out b q]; exact n))
    | some ob => exact (L'.inn b ob q).1
  · have z := u.tups b xs (L.up e)
    rw [L'.out b (L.some0 e)] at z
    exact z
  · have z := u.frzs b o x (L.up e)
    rw [L'.out b (L.some0 e)] at z
    exact z
  · obtain ⟨more, z⟩ := u.tbls b ps (L.up e)
    rw [L'.out b (L.some0 e)] at z
    exact ⟨more, z⟩
theorem Lent.ubU (L : Lent S H0 H1) (L' : Lent S H0' H1') (u : UB fs H0 H0' h B h') : UB fs H1 H1' h B h' := by
  have n0 : ∀ {b : Addr}, H1 b = none → S b = none := fun {b} n => by
    cases q : S b with
    | none => rfl
    | some ob => rw [(L.inn b ob q).2] at n; cases n
  refine ⟨fun b o e n hb => u.keep b o e (L.none1 n) hb, u.slot, fun b o e n => ?_, u.there, fun b xs e => ?_, fun b o x e => ?_, fun b ps e => ?_⟩
  · rw [L'.out b (n0 n)]
    exact u.free b o e (L.none1 n)
  · exact L'.up (u.tups b xs (L.down e fun _ _ z => by cases z))
  · cases q : S b with
    | none =>
      rw [L.out b q] at e
      exact L'.up (u.frzs b o x e)
    | some ob =>
      rw [(L.inn b ob q).2] at e
      cases e
      exact (L'.inn b _ q).2
  · obtain ⟨more, z⟩ := u.tbls b ps (L.down e fun _ _ z => by cases z)
    exact ⟨more, L'.up z⟩
/-- an exception out of a callee that was lent cells -/
theorem Lent.cxD (L : Lent S H0 H1) {s s' : Shared} {outer : List Env} {E E' : XK} {u : Value} (nf : ∀ b o, S b = some o → b ∉ frs outer) (a : ∀ b o, S b = some o → s.heap.get? b = some o) (c : L2.CX P w outer H1 s E u s')
    (hE : ∀ cls d H', Lent S (giveH S H') H' → E cls d H' → E' cls d (giveH S H')) : L2.CX P w outer H0 s E' u s' := by
  obtain ⟨e, B, H', cls, d, rfl, fl, hok, ub, na, os, ag, he⟩ := c
  have L' : Lent S (giveH S H') H' := .give fun b ob q => ub.frzs b ob xT (L.inn b ob q).2
  exact ⟨e, B, _, cls, d, rfl, fl, L'.okD hok, L.ubD L' nf (fun b o q => ⟨a b o q, L'.at1 hok q⟩) ub, L'.none1 na, os, ag, hE cls d H' L' he⟩
theorem Lent.cxU (L : Lent S H0 H1) {s s' : Shared} {outer : List Env} {E E' : XK} {u : Value} (nf : ∀ b o, S b = some o → b ∉ frs outer) (a : ∀ b o, S b = some o → s.heap.get? b = some o) (c : L2.CX P w outer H0 s E u s')
    (hE : ∀ cls d H', Lent S H' (lendH S H') → E cls d H' → E' cls d (lendH S H')) : L2.CX P w outer H1 s E' u s' := by
  obtain ⟨e, B, H', cls, d, rfl, fl, hok, ub, na, os, ag, he⟩ := c
  have nS : ∀ b o, S b = some o → H' b = none := fun b o q => ub.free b o (a b o q) (L.inn b o q).1
  have L' : Lent S H' (lendH S H') := .lend nS
  have kB : ∀ b o, S b = some o → B.get? b = some o := fun b o q => ub.keep b o (a b o q) (L.inn b o q).1 (nf b o q)
  refine ⟨e, B, _, cls, d, rfl, fl, L'.okU kB hok, L.ubU L' ub, ?_, os, ag, hE cls d H' L' he⟩
  rw [L'.out e ?_]
  · exact na
  · cases q : S e with
    | none => rfl
    | some o =>
      have z := kB e o q
      rw [fl.2.1] at z; cases z
end
theorem RepXK.agr {K : PySem.W.Frag} {mg : Str → Option Value} {H H' : Hp} {m : Ms} {x : Exn} {cls : Value} {d : Option Addr} (a : Agr H H') (h : RepXK K mg H m x cls d) : RepXK K mg H' m x cls d :=
  ⟨h.1, h.2.imp id fun ⟨dx, fs, e1, e2, e3, e4⟩ => ⟨dx, fs, e1, a _ _ e2 fun _ _ z => (by cases z), e3, RepL.agr a _ _ e4⟩⟩
/-! ### a function as a value -/
/-- what is frozen stays -/
def Fz (H H2 : Hp) : Prop := ∀ b o u, H b = some (.frz o u) → H2 b = some (.frz o u)
/-- a promise of a function that captured some values -/
abbrev Spf := List D → Spc
def toSpC (K : PySem.W.Frag) (mg : Str → Option Value) (φ : Spf) (f : Addr) (ws : List V) (xs : List D) : Sp := fun vs H Q E => ∃ hc m ds P PE, Wd K H hc m ∧ Rep K H m (.clo f ws xs) (.ref f) ∧ RepL K H m ds vs ∧ φ xs ds hc P PE ∧
  (∀ d hc', P d hc' → ∀ v H' m', Ex K ⟨H, hc, m⟩ H' hc' m' → Rep K H' m' d v → Q v H') ∧
  (∀ x hc', PE x hc' → ∀ cls dx H' m', Ex K ⟨H, hc, m⟩ H' hc' m' → RepXK K mg H' m' x cls dx → E cls dx H')
/-- the function at f keeps the promise wherever what is frozen in H stands -/
structure Clo (P : Program) (w : World) (K : PySem.W.Frag) (mg : Str → Option Value) (base : Heap) (k : Nat) (H : Hp) (f : Addr) (ws : List V) (φ : Spf) : Prop where
  run : ∀ (A : Around) (outer : List Env) (s : Shared) (H2 : Hp) (us : List Value) (vs : List V) (xs : List D) (Q : VK) (E : XK), RG k A → Env0 P w K mg base A outer s H2 → Fz H H2 → Vals vs us → toSpC K mg φ f ws xs vs H2 Q E →
    codeAny (model P w) A (.call (.ref f) ⟨us, []⟩) (CR (L2.CX P w) outer P w H2 s Q E) s
  fn : K.lookup f ≠ none → ∃ oc od fd sl, K.lookup f = some ⟨oc, od, .func fd, sl⟩
theorem FnVal.at_ {P : Program} {w : World} {K : PySem.W.Frag} {H : Hp} {f : Addr} {h : Heap} (x : FnVal K H f) (k : HOk P w H h) (KX : K.In h) (fn : K.lookup f ≠ none → ∃ oc od fd sl, K.lookup f = some ⟨oc, od, .func fd, sl⟩) : PySem.W.FnAt f h := by
  rcases x with ⟨o, fd, c, e1, e2, _⟩ | x
  · obtain ⟨oc, od, dt, sl⟩ := o
    have e2 : dt = .func fd := e2
    subst e2
    exact ⟨oc, od, fd, sl, (k f _ e1).1⟩
  · obtain ⟨oc, od, fd, sl, e⟩ := fn x
    exact ⟨oc, od, fd, sl, KX _ _ e⟩
abbrev CloR := Addr → List V → Spf → Prop
section
variable {X : Cx} {W : WX} {e : Expr} {es : List Expr} {c : CAx} {p pos : Pos} {i : Nat} {x : Str}
/-- f(..), f the function in slot i -/
def cCallV (Γ : CloR) (i : Nat) (c : CAx) : CEx := fun E sc hc P => match look sc i with
  | some (.clo f ws xs) => ∃ φ, Γ f ws φ ∧ c E sc hc fun ds hc1 => φ xs ds hc1 P fun x hc2 => E x sc hc2
  | _ => False
theorem ce_callV {k kc : Nat} {Γ : CloR} (hΓ : ∀ f ws φ, Γ f ws φ → Clo X.prog X.w X.K X.mg X.base kc X.H_0 f ws φ) (hr : RT k X W) (ha : CA X W (e :: es) c) (hk : kc ≤ k := by decide) (hN : X.N[i]? = some x := by rfl) (hv : Vis X.env.scope x := by first | exact Or.inl rfl | exact Or.inr (Or.inl rfl) | exact Or.inr (Or.inr rfl))
    (hd : (x == ("__debug__" : Str)) = false := by decide) (hcd : (x == ("__classdict__" : Str)) = false := by decide)
    (he : starEach (e :: es) X.env = (false, eval e X.env) :: starEach es X.env := by rfl) (hpl : (backTo pos (starEach es X.env)).any (·.1) = false := by rfl) : CE X W (.Call (.Name x p) (e :: es) [] pos) (cCallV Γ i c) := by
  refine ⟨⟨fun pins s σ H Q I ⟨en, sc, hc, m, E, P, r, kk, xo, fin⟩ => ?_⟩⟩
  unfold cCallV at kk
  split at kk
  case h_2 => exact kk.elim
  rename_i f ws xs el
  obtain ⟨φ, hφ, kk⟩ := kk
  obtain ⟨v0, e1, q0⟩ := r.slot i _ (look_get el)
  have q1 := q0
  unfold Rep at q1
  obtain ⟨rfl, fv, rl⟩ := q1
  have cl := hΓ f ws φ hφ
  refine wpAny_Call_Name_kw (thn ((pe_var (pos := p) hN hv hd hcd).run pins s σ H (fun v H1 => v = .ref f ∧ H1 = H) I ⟨.ref f, e1, rfl, rfl⟩) fun u s1 ⟨v, H1, I1, r1, q1⟩ => ?_)
  obtain ⟨rfl, rfl⟩ := q1
  cases r1
  refine PySem.W.callWith_F (first := []) (fv.at_ I1.hok I1.kIn cl.fn) (thn (ha.p.run pos pins s1 σ _ (fun vs H2 => FnVal X.K H2 f ∧ toSpC X.K X.mg φ f ws xs vs H2 Q (fun cls d H' => W cls d σ H')) I1 ⟨en, sc, hc, m, E, _, r, kk, xo, fun ds hc1 hp vs H2 m2 x2 q2 => ?_⟩) fun us s2 ⟨vs, H2, I2, rr, fv2, q⟩ => ⟨fv2.at_ I2.hok I2.kIn cl.fn, ?_⟩) he hpl
  · have q3 := Rep.mono r.mu x2.stp _ _ q0
    have q4 := q3
    unfold Rep at q4
    exact ⟨q4.2.1, hc1, m2, ds, P, _, x2.toWd, q3, q2, hp, fun d hc' pd v H' m' x q => fin d hc' pd v H' m' (x2.trans x) q, fun y hc' py cls dx H' m' x q => xo y sc hc' py cls dx σ H' m' (r.call (x2.trans x)) q⟩
  · show wpAny _ _ (call (.ref f) us) _ _ _
    refine wpAny_call (codeAny_mono (cl.run X.A X.stack s2 H2 us vs xs Q _ (hr.g.mono hk) I2.env0 (fun b o u z => I2.base.frzs b o u z) rr q) fun z s' hq => ?_)
    match z, hq with
    | .error e, hq => exact hr.t e s' (XE.of_call I2 (fun _ _ _ z => z) hq)
    | .ok (.ret u), hq => exact I2.after hq
    | .ok .next, hq => exact False.elim hq
    | .ok .brk, hq => exact False.elim hq
    | .ok .cont, hq => exact False.elim hq
end
/-! ### a def that gets functions -/
def toSpH (P : Program) (w : World) (K : PySem.W.Frag) (mg : Str → Option Value) (base : Heap) (kc : Nat) (Γ : CloR) (sp : Spc) : Sp := fun vs H Q E => (∀ f ws φ, Γ f ws φ → Clo P w K mg base kc H f ws φ) ∧ toSp K mg sp vs H Q E
def FnAtH (P : Program) (w : World) (K : PySem.W.Frag) (mg : Str → Option Value) (base : Heap) (kc k : Nat) (x : Str) (ps : List Str) (sp : CloR → Spc) : Prop :=
  ∃ (f : Addr) (fd : FuncData), (∀ Γ, FnG P w K mg base (L2.CX P w) k f fd ps (toSpH P w K mg base kc Γ (sp Γ))) ∧ mg x = some (.ref f) ∧ PySem.W.keepIn K (.ref f) = true ∧ Binds K fd ps []
theorem fnH_at {P : Program} {w : World} {K : PySem.W.Frag} {mg : Str → Option Value} {base : Heap} {x : Str} {st : Stmt} {N ps : List Str} {kc k : Nat} {sp : CloR → Spc} {c : CloR → CSx} (F : DefAt K mg x st) (S : FnScope N ps (defScope st))
    (hb : ∀ (Γ : CloR) (f : Addr) (cdv : Value) (A : Around) (outer : List Env) (s : Shared) (H : Hp) (E : XK), RT k (cxD P w K mg base N x (defScope st) f cdv A outer s H E) (WE E) → (∀ f ws φ, Γ f ws φ → Clo P w K mg base kc H f ws φ) → CSs (cxD P w K mg base N x (defScope st) f cdv A outer s H E) (WE E) (defBody st) (c Γ))
    (hl : ∀ Γ ds hc Q E, sp Γ ds hc Q E → ds.length = ps.length) (hp : ∀ Γ ds hc (Q : D → CH → Prop) E, sp Γ ds hc Q E → c Γ { nx := fun _ hc' => Q .non hc', rt := Q, xp := fun x _ hc' => E x hc' } (startC N ds) hc)
    (hbi : ∀ (kV doc pm : Value) (an : Option Addr) (cdv ct : Value) (us : List Value), us.length = ps.length → bindArgs (PySem.W.fnOf x x (defArgs st) (defBody st) (defScope st) .none kV doc pm an cdv ct) ⟨us, []⟩ = pure (ps.zip us)) : FnAtH P w K mg base kc (k + 1) x ps sp := by
  obtain ⟨f, fd, F, hm⟩ := F
  refine ⟨f, fd, fun Γ => ?_, hm, F.kp, F.bindsN hbi⟩
  obtain ⟨oc, od, dV, kV, doc, pm, an, cdv, ct, osl, rfl, lk, hcd, _, _⟩ := F.ex
  refine fnG_of lk hcd S (fun vs H Q E ⟨_, hc, m, ds, P', PE, w', rl, h, _⟩ => by rw [← rl.length]; exact hl Γ ds hc _ _ h) fun A outer s H vs Q E hr ⟨hΓ, hc, m, ds, P', PE, w', rl, h, f1, f2⟩ => ⟨_, (hb Γ f cdv A outer s H E (rt_of hr) hΓ).p, ?_⟩
  exact ⟨_, _, hc, m, _, start_rs w' rl, hp Γ ds hc P' PE h, end_of f1 f2⟩
/-- it promises the same under lower functions -/
theorem FnAtH.mono {P : Program} {w : World} {K : PySem.W.Frag} {mg : Str → Option Value} {base : Heap} {kc j k : Nat} {x : Str} {ps : List Str} {sp : CloR → Spc} (h : FnAtH P w K mg base kc j x ps sp) (l : j ≤ k) : FnAtH P w K mg base kc k x ps sp := by
  obtain ⟨f, fd, a, b⟩ := h
  exact ⟨f, fd, fun Γ => (a Γ).mono l, b⟩
end Mn

namespace Mn
open PySem PySem.Spec PyProof.Rows L2 NdefX
/-! ### a lambda is made -/
structure LamMade (X : Cx) (params : Arguments) (body : Expr) (scope : Scope) (H H1 : Hp) (f c' : Addr) (o : Obj) : Prop where
  ext : LamX.ExtN H H1
  live : ∀ b, H1 b = none → H b = none
  tab : LamX.Tabs (tabsL X.K) H1
  new : H f = none
  fr : H1 f = some (.frz o (.own f))
  ob : ∃ pm ctv, o = PySem.W.kla_obj "<lambda>" (X.env.qual ++ "<lambda>") params body scope (cloFrom X.env.cells scope.names []) pm c' ctv
  code : H1 c' = some (LamX.CodeO c' (X.env.qual ++ "<lambda>"))
theorem upd_nn {H : Hp} {a b : Addr} {o : HO} (e : upd H a o b = none) : H b = none := by
  by_cases h : b = a
  · rw [h, upd_same] at e; cases e
  · rwa [upd_ne h] at e
theorem nodup_fst {α β : Type} [DecidableEq α] : ∀ {l : List (α × β)} {a : α} {b c : β}, (l.map (·.1)).Nodup → (a, b) ∈ l → (a, c) ∈ l → b = c
  | [], _, _, _, _, h, _ => by cases h
  | (x, y) :: r, a, b, c, nd, h1, h2 => by
    rw [List.map_cons, List.nodup_cons] at nd
    rcases List.mem_cons.mp h1 with e1 | h1
    · rcases List.mem_cons.mp h2 with e2 | h2
      · exact (Prod.mk.inj e1).2.trans (Prod.mk.inj e2).2.symm
      · exact absurd (List.mem_map.mpr ⟨(a, c), h2, by rw [← (Prod.mk.inj e1).1]⟩) nd.1
    · rcases List.mem_cons.mp h2 with e2 | h2
      · exact absurd (List.mem_map.mpr ⟨(a, b), h1, by rw [← (Prod.mk.inj e2).1]⟩) nd.1
      · exact nodup_fst nd.2 h1 h2
section
variable {X : Cx} {pins : List (Addr × Obj)} {σ : L2.St} {H : Hp} {s : Shared}
/-- a new object that is known and never written -/
theorem inv_frz {o : Obj} {t' : Nat} (I : Inv X pins σ H s) (e : (s.heap.push o).get? s.heap.objs.size = some o) : Inv X pins σ (upd H s.heap.objs.size (.frz o (.own s.heap.objs.size))) { s with heap := s.heap.push o, toks := t' } :=
  I.laid (a := s.heap.objs.size) (fun b u e => Heap.get?_push_of_some _ e) (Nat.le_refl _) ⟨e, _, e⟩
theorem lam_made {c P : Addr} {params : Arguments} {body : Expr} {scope : Scope} {pos : Pos} {E : Value → Shared → Prop} {Q : Value → Shared → Prop} (I : Inv X pins σ H s) (TB : LamX.TabB X.base X.mg c P) (hcode : X.env.code = .ref c)
    (hm : (P, X.env.qual ++ "<lambda>") ∈ tabsL X.K) (nd : (tabA X.K).Nodup) (hT : LamX.Tabs (tabsL X.K) H) (hdef : defaultsOf params X.env = ([], [])) (hfree : ∀ y ∈ scope.names, y.2 = .free → ∃ c, X.env.cells.lookup y.1 = some c)
    (h : ∀ (f c' : Addr) (o : Obj) (H1 : Hp) (s' : Shared), Inv X pins σ H1 s' → LamMade X params body scope H H1 f c' o → Q (.ref f) s') :
    wpAny (model X.prog X.w) X.A (eval (.Lambda params body scope pos) X.env) Q E s := by
  obtain ⟨ps, tP, tri, am⟩ := hT _ hm
  have tB : s.heap.BuiltinsAt X.mg P := TB.bm.keeps I.bk
  have tO : s.heap.get? P = some { cls := .none, data := .fields ps } := I.hok P _ tP
  refine PySem.W.kla_eval hdef ?_
  cases hit : codeAmong pos ps.toList with
  | some cv =>
    obtain ⟨c', rfl, co⟩ := am pos cv hit
    refine PySem.W.kla_makeFunctionHit (mg := X.mg) (c := c) (P := P) (ps := ps) (closure_ok hfree) I.ok.glob (I.mod.glob.keeps I.bk) hcode (TB.code.keeps I.bk) tO tri hit tB fun ctv h' tk hx hsz => ?_
    have I1 : Inv X pins σ H { s with heap := h', toks := tk } := I.kept hx
    have nf : H h'.objs.size = none := I1.hok.fresh (Nat.le_refl _)
    have nn : ∀ {b : Addr} {o : HO}, H b = some o → b ≠ h'.objs.size := fun e => ne_of_none e nf
    refine h h'.objs.size c' _ _ _ (inv_frz (t' := tk) I1 (Heap.get?_push_size _ rfl)) ⟨fun b o e _ => (upd_ne (nn e)).trans e, fun b e => upd_nn e, hT.ext fun b o e => (upd_ne (nn e)).trans e, nf, upd_same, ⟨_, ctv, rfl⟩, (upd_ne (nn co)).trans co⟩
  | none =>
    refine PySem.W.kla_makeFunction (mg := X.mg) (c := c) (P := P) (ps := ps) (closure_ok hfree) I.ok.glob (I.mod.glob.keeps I.bk) hcode (TB.code.keeps I.bk) tO tri hit TB.gP tB fun c' ctv h' tk hx hge hlt hrec htb => ?_
    obtain ⟨c2, oc, vs, t, e2, oce, ocd, ocv⟩ := hrec
    cases e2
    have nC : H c' = none := I.hok.fresh hge
    have I1 := LamX.inv_table (t' := tk) (more := #[rawInt pos.line, rawInt pos.col, .ref c']) (h' := h') I tP (fun b o hb e => hx b o hb e) htb hge ⟨oc, vs, t, oce, ocd, ocv⟩
    have old : LamX.ExtN H (upd (upd H P (.tbl (ps ++ #[rawInt pos.line, rawInt pos.col, .ref c']))) c' (LamX.CodeO c' (X.env.qual ++ "<lambda>"))) := fun b o e n => by
      have hb : b ≠ P := fun z => n ps (by rw [z, tP] at e; exact (Option.some.inj e).symm)
      rw [upd_ne (ne_of_none e nC), upd_ne hb]
      exact e
    have nf := I1.hok.fresh (Nat.le_refl _)
    have nn : ∀ {b : Addr} {o : HO}, upd (upd H P (.tbl (ps ++ #[rawInt pos.line, rawInt pos.col, .ref c']))) c' (LamX.CodeO c' (X.env.qual ++ "<lambda>")) b = some o → b ≠ h'.objs.size := fun e => ne_of_none e nf
    have cC : upd (upd H P (.tbl (ps ++ #[rawInt pos.line, rawInt pos.col, .ref c']))) c' (LamX.CodeO c' (X.env.qual ++ "<lambda>")) c' = some (LamX.CodeO c' (X.env.qual ++ "<lambda>")) := upd_same
    have T1 : LamX.Tabs (tabsL X.K) (upd (upd H P (.tbl (ps ++ #[rawInt pos.line, rawInt pos.col, .ref c']))) c' (LamX.CodeO c' (X.env.qual ++ "<lambda>"))) := fun p hp => by
      by_cases hb : p.1 = P
      · have hq : p.2 = X.env.qual ++ "<lambda>" := nodup_fst (a := P) nd (by rw [← hb]; exact hp) hm
        refine ⟨_, (upd_ne (by rw [hb]; exact ne_of_none tP nC)).trans (by rw [hb]; exact upd_same), ?_, fun p' cv hcv => ?_⟩
        · rw [Array.toList_append]
          exact PySem.TriplesOk_snoc _ _ _ _ tri
        · rw [Array.toList_append] at hcv
          rw [hq]
          rcases LamX.among_app _ tri hcv with z | z
          · obtain ⟨c0, e1, e2⟩ := am p' cv z
            exact ⟨c0, e1, old _ _ e2 LamX.codeO_ne⟩
          · exact ⟨c', z, cC⟩
      · obtain ⟨ps', a1, a2, a3⟩ := hT p hp
        refine ⟨ps', (upd_ne (ne_of_none a1 nC)).trans ((upd_ne hb).trans a1), a2, fun p' cv hcv => ?_⟩
        obtain ⟨c0, e1, e2⟩ := a3 p' cv hcv
        exact ⟨c0, e1, old _ _ e2 LamX.codeO_ne⟩
    refine h h'.objs.size c' _ _ _ (inv_frz (t' := tk) I1 (Heap.get?_push_size _ rfl)) ⟨fun b o e n => (upd_ne (nn (old b o e n))).trans (old b o e n), fun b e => upd_nn (upd_nn (upd_nn e)), T1.ext fun b o e => (upd_ne (nn e)).trans e, ?_, upd_same, ⟨_, ctv, rfl⟩, (upd_ne (nn cC)).trans cC⟩
    exact I.hok.fresh (Nat.le_trans hge (Nat.le_of_lt hlt))
theorem pe_lam {c P : Addr} {params : Arguments} {body : Expr} {scope : Scope} {pos : Pos} (TB : LamX.TabB X.base X.mg c P) (hcode : X.env.code = .ref c) (hm : (P, X.env.qual ++ "<lambda>") ∈ tabsL X.K) (nd : (tabA X.K).Nodup)
    (hdef : defaultsOf params X.env = ([], [])) (hfree : ∀ y ∈ scope.names, y.2 = .free → X.env.scope.names.lookup y.1 = some .cell ∨ X.env.scope.names.lookup y.1 = some .free) :
    PE X (.Lambda params body scope pos) (fun σ H Q => LamX.Tabs (tabsL X.K) H ∧ ∀ f c' o H1, LamMade X params body scope H H1 f c' o → Q (.ref f) H1) :=
  ⟨fun pins s σ H Q I ⟨hT, h⟩ => lam_made I TB hcode hm nd hT hdef (fun y hy e => (hfree y hy e).elim (fun z => I.ok.has _ (.inl z)) fun z => I.ok.has _ (.inr z)) fun f c' o H1 s' I1 L => ⟨.ref f, H1, I1, rfl, h f c' o H1 L⟩⟩
theorem LamMade.ex {K : PySem.W.Frag} {params : Arguments} {body : Expr} {scope : Scope} {H1 : Hp} {f c' : Addr} {o : Obj} {hc : CH} {m : Ms} (hK : K = X.K) (L : LamMade X params body scope H H1 f c' o) (w : Wd K H hc m) : Ex K ⟨H, hc, m⟩ H1 hc m := by
  subst hK
  have st : Stp H m H1 m := ⟨fun b u e t _ => L.ext b u e (nt_ne t), fun _ z => .inl z, fun b u e n => by rw [L.live b n] at e; cases e⟩
  have keepL : ∀ {b vs}, H b = some (.lst vs) → H1 b = some (.lst vs) := fun e => L.ext _ _ e fun ps z => by cases z
  refine ⟨⟨L.tab, fun b z => ?_, w.hm, fun b ds e => ?_⟩, w.mu, w.hm, fun b u e t _ => L.ext b u e (nt_ne t), fun _ z => .inl z, fun _ z _ => z, fun b ds e => .inl (by show hc b ≠ none; rw [e]; simp), fun b u e n => ?_⟩
  · obtain ⟨vs, e⟩ := w.mu b z
    exact ⟨vs, keepL e⟩
  · obtain ⟨vs, e1, q⟩ := w.heap b ds e
    exact ⟨vs, keepL e1, RepL.mono w.mu st _ _ q⟩
  · have e : H b = some u := e
    rw [L.live b n] at e; cases e
end
end Mn

namespace Mn
open PySem PySem.Spec PyProof.Rows L2 NdefX
/-! ### what a lambda captures -/
def capsOf (sc : List Sl) : List Nat → Option (List D)
  | [] => some []
  | j :: js => match look sc j, capsOf sc js with
    | some d, some ds => some (d :: ds)
    | _, _ => none
theorem caps_rep {K : PySem.W.Frag} {en : En} {σ : L2.St} {H : Hp} {sc : List Sl} {hc : CH} {m : Ms} (r : Rs K en σ H sc hc m) : ∀ {js : List Nat} {xs : List D}, capsOf sc js = some xs → ∃ ws : List V, js.map (slotAt σ) = ws.map some ∧ RepL K H m xs ws
  | [], xs, h => by
    cases h
    exact ⟨[], rfl, RepL.nil⟩
  | j :: js, xs, h => by
    unfold capsOf at h
    cases e1 : look sc j with
    | none => rw [e1] at h; cases h
    | some d =>
      cases e2 : capsOf sc js with
      | none => rw [e1, e2] at h; cases h
      | some ds =>
        rw [e1, e2] at h
        cases h
        obtain ⟨v, e3, q⟩ := r.slot j d (look_get e1)
        obtain ⟨ws, e4, q2⟩ := caps_rep r e2
        exact ⟨v :: ws, by rw [List.map_cons, List.map_cons, e4, slotAt_of e3], RepL.cons q q2⟩
/-- the captured cells' objects -/
noncomputable def cellS (cl : List (Str × Addr)) (h : Heap) : Addr → Option Obj := fun b => @ite _ (∃ y, cl.lookup y = some b) (Classical.propDecidable _) (h.get? b) none
theorem cellS_some {cl : List (Str × Addr)} {h : Heap} {b : Addr} {o : Obj} (e : cellS cl h b = some o) : (∃ y, cl.lookup y = some b) ∧ h.get? b = some o := by
  unfold cellS at e
  by_cases z : ∃ y, cl.lookup y = some b
  · rw [if_pos z] at e
    exact ⟨z, e⟩
  · rw [if_neg z] at e; cases e
theorem cellS_at {cl : List (Str × Addr)} {h : Heap} {b : Addr} {o : Obj} {y : Str} (e : cl.lookup y = some b) (e2 : h.get? b = some o) : cellS cl h b = some o := by
  unfold cellS
  rw [if_pos ⟨y, e⟩]
  exact e2
abbrev ncD (P : Program) (w : World) (K : PySem.W.Frag) (mg : Str → Option Value) (base : Heap) (N : List Str) (F : NF) (f : Addr) (A : Around) (outer : List Env) (s : Shared) (H : Hp) (E : XK) : Cx := ncx (L2.CX P w) P w K mg base N F f A outer s H E
/-- a lambda's promise: n parameters, its body read as cb -/
def lamS (n : Nat) (cb : CEx) : Spf := fun xs ds hc Q E => ds.length = n ∧ cb (fun x _ hc2 => E x hc2) (ds.map Sl.val ++ xs.map Sl.val) hc Q
theorem Clo.mono {P : Program} {w : World} {K : PySem.W.Frag} {mg : Str → Option Value} {base : Heap} {j k : Nat} {H : Hp} {f : Addr} {ws : List V} {φ : Spf} (c : Clo P w K mg base j H f ws φ) (h : j ≤ k) : Clo P w K mg base k H f ws φ :=
  ⟨fun A outer s H2 us vs xs Q E hr => c.run A outer s H2 us vs xs Q E (hr.mono h), c.fn⟩
section
variable {P : Program} {w : World} {K : PySem.W.Frag} {mg : Str → Option Value} {base : Heap}
theorem clo_lam {kb : Nat} {N ps fr : List Str} {scope : Scope} {params : Arguments} {body : Expr} {q : Str} {cl : List (Str × Addr)} {c' f : Addr} {pm ctv : Value} {h : Heap} {H : Hp} {ws : List V} {cb : CEx} (S : NScope N ps fr scope) (hN : N.length = ps.length + fr.length)
    (hbind : ∀ us : List Value, us.length = ps.length → bindArgs (PySem.W.kla_fn "<lambda>" q params body scope cl pm (.ref c') ctv) ⟨us, []⟩ = pure (ps.zip us))
    (hf : H f = some (.frz (PySem.W.kla_obj "<lambda>" q params body scope cl pm c' ctv) (.own f))) (C : CellsAt cl fr (ws.map some) h H) (nK : K.lookup f = none)
    (hbody : ∀ (A : Around) (outer : List Env) (s : Shared) (H : Hp) (E : XK), RT kb (ncD P w K mg base N ⟨"<lambda>", q, params, [], scope, cl, c'⟩ f A outer s H E) (WE E) → CE (ncD P w K mg base N ⟨"<lambda>", q, params, [], scope, cl, c'⟩ f A outer s H E) (WE E) body cb) :
    Clo P w K mg base (kb + 1) (lendH (cellS cl h) H) f ws (lamS ps.length cb) := by
  refine ⟨fun A outer s H2 us vs xs Q E hr e0 fz r hsp => ?_, fun z => absurd nK z⟩
  obtain ⟨hc, m, ds, P', PE, wd, fv, rl, ⟨hl, kk⟩, fin, fin2⟩ := hsp
  unfold Rep at fv
  obtain ⟨_, fv, rx⟩ := fv
  have nSf : cellS cl h f = none := by
    cases z : cellS cl h f with
    | none => rfl
    | some o =>
      obtain ⟨⟨y, e⟩, _⟩ := cellS_some z
      rw [(C.all y f e).1] at hf; cases hf
  have ef := fz f _ _ (show lendH (cellS cl h) H f = _ by unfold lendH; rw [nSf]; exact hf)
  have fo := (e0.hok f _ ef).1
  have ec : H2 c' = some (LamX.CodeO c' q) := by
    rcases fv with ⟨o, fd, c, e1, e2, e3, e4⟩ | z
    · rw [ef] at e1
      cases e1
      cases e2
      cases e3
      exact e4
    · exact absurd nK z
  have L : Lent (cellS cl h) (giveH (cellS cl h) H2) H2 := .give fun b o e => fz b o xT (by unfold lendH; rw [e])
  have e00 : Env0 P w K mg base A outer s (giveH (cellS cl h) H2) := ⟨e0.frames, e0.mod, fun b o e => ⟨(e0.bs b o e).1, L.none1 (e0.bs b o e).2⟩, e0.bsz, e0.funs, fun b hb => L.none1 (e0.frf b hb), L.okD e0.hok, e0.bare⟩
  have there : ∀ {y : Str} {c : Addr} {v : Option Value}, cl.lookup y = some c → h.IsCell c v → s.heap.IsCell c v ∧ giveH (cellS cl h) H2 c = none := fun {y c v} e ⟨o, ho, hd⟩ => by
    have q := cellS_at e ho
    exact ⟨⟨o, L.at1 e0.hok q, hd⟩, (L.inn c o q).1⟩
  have C2 : CellsAt cl fr (ws.map some) s.heap (giveH (cellS cl h) H2) := by
    refine ⟨C.len, fun y c e => ?_, C.inj, fun i y e => ?_⟩
    · obtain ⟨_, v, z⟩ := C.all y c e
      exact ⟨(there e z).2, v, (there e z).1⟩
    · obtain ⟨c, hc2, hv⟩ := C.has i y e
      refine ⟨c, hc2, fun v ev => ?_⟩
      obtain ⟨u, ru, z⟩ := hv v ev
      exact ⟨u, ru, (there hc2 z).1⟩
  have lw : ws.length = fr.length := by rw [← C.len, List.length_map]
  have lv : vs.length = ps.length := by rw [← rl.length]; exact hl
  have lim : s.heap.NoLimit := e0.mod.nolimit.keeps fun b o e => (e0.bs b o e).1
  refine PySem.W.kla_callFunE hr.r.depth fo rfl S.co S.gen rfl (codeO_at e0.hok ec) ?_
  rw [hbind us (by rw [← r.length]; exact lv)]
  refine wpAny_pure (wpAny_newFunctionEnv S.nocell (fun ⟨n, _⟩ hy => S.par n (List.of_mem_zip hy).1) (fun h₁ hns hsb => ⟨lim.fresh _ hsb, ?_⟩) S.kind)
  show codeAny _ _ (.expr body (envF ⟨"<lambda>", q, params, [], scope, cl, c'⟩ f s.heap.objs.size)) _ _
  have kp : ∀ b o, s.heap.get? b = some o → h₁.get? b = some o := fun b o e => hsb.extBut b o (Nat.ne_of_lt (Heap.lt_size e)) (Heap.get?_push_of_some _ e)
  have J := inv_startN (CX := L2.CX P w) (F := ⟨"<lambda>", q, params, [], scope, cl, c'⟩) (f := f) (E := fun cls d H' => Lent (cellS cl h) H' (lendH (cellS cl h) H') → E cls d (lendH (cellS cl h) H')) (tk := s.toks + (ps.zip us).length) S hr.r.hd e00 lv r C2 hns kp
  have eσ : startF N vs (ws.map some) = L2.start N (vs ++ ws) := by
    unfold startF L2.start
    rw [List.map_append, List.append_assoc, List.length_map, List.length_append, Nat.sub_add_eq]
  have rs : Rs K ⟨giveH (cellS cl h) H2, hc, m⟩ (startF N vs (ws.map some)) (giveH (cellS cl h) H2) (ds.map Sl.val ++ xs.map Sl.val) hc m := by
    have z := start_rs (N := N) (wd.agr L.agD) ((RepL.agr L.agD _ _ rl).append (RepL.agr L.agD _ _ rx))
    rw [eσ]
    have e2 : startC N (ds ++ xs) = ds.map Sl.val ++ xs.map Sl.val := by
      unfold startC
      rw [List.map_append, List.length_append, rx.length, hl, lw, hN, Nat.sub_self, List.replicate_zero, List.append_nil]
    rw [e2] at z
    exact z
  refine PySem.W.kla_codeExpr (wpAny_mono ((hbody A outer s (giveH (cellS cl h) H2) (fun cls d H' => Lent (cellS cl h) H' (lendH (cellS cl h) H') → E cls d (lendH (cellS cl h) H')) ⟨hr.deeper _, takes_of rfl rfl rfl rfl, passes_of rfl⟩).p.run [] _ _ _ (fun v H' => (∀ b o, cellS cl h b = some o → H' b = none) → Q v (lendH (cellS cl h) H')) J
    ⟨_, _, hc, m, _, P', rs, kk, fun y sc' hc' py cls dx σ' H' m' r' q LL => fin2 y hc' py cls dx _ m' (L.exU LL r'.toEx) (RepXK.agr LL.agU q), fun d hc' p v H' m' x q nS => fin d hc' p v _ m' (L.exU (.lend nS) x) (Rep.agr (Lent.lend nS).agU _ _ q)⟩) (fun v s' hq => ?_) fun e s' hq => ?_)
  · obtain ⟨v', H', J', rv, qq⟩ := hq
    have un : Un (frs outer) [] (giveH (cellS cl h) H2) H' s.heap s'.heap := J'.base
    have nS : ∀ b o, cellS cl h b = some o → H' b = none := fun b o e => un.free b o (L.at1 e0.hok e) (L.inn b o e).1 (by simp)
    have L' : Lent (cellS cl h) H' (lendH (cellS cl h) H') := .lend nS
    refine ⟨v', lendH (cellS cl h) H', J'.os, J'.bare, L.unU L' un, L'.okU (fun b o e => un.keep b o (L.at1 e0.hok e) (L.inn b o e).1 (fun z => ?_) (by simp)) J'.hok, rv, qq nS⟩
    have z := e0.frf b z
    rw [(L.inn b o e).2] at z; cases z
  · refine wpAny_mono hq (fun _ s'' z => ?_) fun e' s'' z => ?_
    · exact L.cxU (fun b o q z2 => by
        have z3 := e0.frf b z2
        rw [(L.inn b o q).2] at z3; cases z3) (fun b o q => L.at1 e0.hok q) z fun cls d H' LL x => x LL
    · exact L.cxU (fun b o q z2 => by
        have z3 := e0.frf b z2
        rw [(L.inn b o q).2] at z3; cases z3) (fun b o q => L.at1 e0.hok q) z fun cls d H' LL x => x LL
end
/-! ### f(lambda ..: body, ..) -/
def cLamC (sp : CloR → Spc) (js : List Nat) (n : Nat) (cb : CEx) (c : CAx) : CEx := fun E sc hc P => ∃ xs, capsOf sc js = some xs ∧ c E sc hc fun ds hc1 => ∀ f ws, sp (fun g us φ => g = f ∧ us = ws ∧ φ = lamS n cb) (.clo f ws xs :: ds) hc1 P fun x hc2 => E x sc hc2
theorem ce_lamc {X : Cx} {W : WX} {x : Str} {p lpos pos : Pos} {kc k l kb : Nat} {pg : List Str} {sp : CloR → Spc} {es : List Expr} {c : CAx} {params : Arguments} {body : Expr} {scope : Scope} {N ps fr : List Str} {js : List Nat} {cb : CEx} {cc Pt : Addr} (F : FnAtH X.prog X.w X.K X.mg X.base kc k x pg sp) (hr : RT l X W) (TB : LamX.TabB X.base X.mg cc Pt) (hcode : X.env.code = .ref cc)
    (hmt : (Pt, X.env.qual ++ "<lambda>") ∈ tabsL X.K) (nd : (tabA X.K).Nodup) (S : NScope N ps fr scope)
    (hbody : ∀ (q : Str) (cl : List (Str × Addr)) (c' f : Addr) (A : Around) (outer : List Env) (s : Shared) (H : Hp) (E : XK), RT kb (ncD X.prog X.w X.K X.mg X.base N ⟨"<lambda>", q, params, [], scope, cl, c'⟩ f A outer s H E) (WE E) → CE (ncD X.prog X.w X.K X.mg X.base N ⟨"<lambda>", q, params, [], scope, cl, c'⟩ f A outer s H E) (WE E) body cb)
    (ha : CA X W es c) (hbind : ∀ (q : Str) (cl : List (Str × Addr)) (pm cv ctv : Value) (us : List Value), us.length = ps.length → bindArgs (PySem.W.kla_fn "<lambda>" q params body scope cl pm cv ctv) ⟨us, []⟩ = pure (ps.zip us))
    (hl : k ≤ l := by decide) (hkc : kb + 1 ≤ kc := by decide) (hN : N.length = ps.length + fr.length := by rfl) {sc0 : Scope} (hsc : X.env.scope = sc0 := by rfl) (hfree0 : ndefB sc0 scope fr = true := by decide +kernel) (hjs : js.map (fun j => X.N[j]?) = fr.map some := by rfl) (hdef : defaultsOf params X.env = ([], []) := by rfl) (hfn : ∀ y, X.fn y = true := by intro _; rfl)
    (hg : Gl X x := by rfl) (hdb : (x == ("__debug__" : Str)) = false := by decide) (he : starEach (.Lambda params body scope lpos :: es) X.env = (false, eval (.Lambda params body scope lpos) X.env) :: starEach es X.env := by rfl) (hpl : (backTo pos (starEach es X.env)).any (·.1) = false := by rfl) :
    CE X W (.Call (.Name x p) (.Lambda params body scope lpos :: es) [] pos) (cLamC sp js ps.length cb c) := by
  refine ⟨⟨fun pins s σ H Q I ⟨en, sc, hc, m, E, P, r, ⟨xs, hx, k1⟩, xo, fin⟩ => ?_⟩⟩
  obtain ⟨fg, fd, FG, hm, hk, hb⟩ := F
  have hfree : ndefB X.env.scope scope fr = true := by rw [hsc]; exact hfree0
  have hfr := ndef_free hfree
  refine wpAny_Call_Name_kw (ld_glob I hg hm (PySem.W.callWith_K (h₀ := X.base) I.ok.mod.kin hk (thn ((pa_cons (pe_lam (pos := lpos) TB hcode hmt nd hdef hfr) ha.p he).run pos pins s σ H (fun vs H2 => ∃ f c' o H1 hc2 m2 ds vs', vs = .ref f :: vs' ∧ LamMade X params body scope H H1 f c' o ∧ Ex X.K ⟨H1, hc, m⟩ H2 hc2 m2 ∧ RepL X.K H2 m2 ds vs' ∧
      ∀ f ws, sp (fun g us φ => g = f ∧ us = ws ∧ φ = lamS ps.length cb) (.clo f ws xs :: ds) hc2 P fun x hc3 => E x sc hc3) I ⟨r.tab, fun f c' o H1 L => ⟨en, sc, hc, m, E, _, r.call (L.ex rfl r.toWd), k1, xo, fun ds hc1 hp vs H2 m2 x2 q2 => ⟨f, c', o, H1, hc1, m2, ds, vs, rfl, L, x2, q2, hp⟩⟩⟩)
    fun us s1 ⟨vs, H2, I1, r1, q1⟩ => ⟨I1.kIn, ?_⟩) he hpl) hdb)
  obtain ⟨f, c', o, H1, hc2, m2, ds, vs', rfl, L, x2, q2, hsp⟩ := q1
  have x1 := L.ex rfl r.toWd
  have r2 := (r.call x1).call x2
  obtain ⟨ws, ew, rw_⟩ := caps_rep r2 hx
  have C := cells_of I1 (Caps.made I1.ok hfr (ndef_fr hfree) hjs)
  rw [ew] at C
  obtain ⟨pm, ctv, eo⟩ := L.ob
  subst eo
  have hcf : hc f = none := hc_none r.toWd L.new
  have hcc : hc c' = none := by
    cases z : hc c' with
    | none => rfl
    | some es =>
      obtain ⟨us, e, _⟩ := x1.heap c' es z
      rw [L.code] at e
      unfold LamX.CodeO at e
      cases e
  have ef := x2.keep f _ L.fr trivial hcf
  have ec := x2.keep c' _ L.code (nt_of fun ps z => by unfold LamX.CodeO at z; cases z) hcc
  have nK : X.K.lookup f = none := by
    cases z : X.K.lookup f with
    | none => rfl
    | some ob =>
      rw [(I1.bs f ob (I1.ok.mod.kin f ob z)).2] at ef; cases ef
  have S_none : ∀ b ob, cellS (cloFrom X.env.cells scope.names []) s1.heap b = some ob → H2 b = none := fun b ob e => by
    obtain ⟨⟨y, e1⟩, _⟩ := cellS_some e
    exact (C.all y b e1).1
  have L3 := Lent.lend S_none
  have far : ∀ {b : Addr} {ob : Obj}, cellS (cloFrom X.env.cells scope.names []) s1.heap b = some ob → X.s_0.heap.objs.size ≤ b ∧ b ≠ X.env.locals := fun {b ob} e => by
    obtain ⟨⟨y, e1⟩, _⟩ := cellS_some e
    have e2 := (Caps.made I1.ok hfr (ndef_fr hfree) hjs).sub y b e1
    exact ⟨I1.ok.cab y b (hfn y) e2, I1.cne y b e2⟩
  have nstk : ∀ b ob, cellS (cloFrom X.env.cells scope.names []) s1.heap b = some ob → b ∉ frs X.stack := fun b ob e z => by
    rcases List.mem_cons.mp (I1.stkSub b z) with z | z
    · exact (far e).2 z
    · obtain ⟨_, o', ho, _⟩ := I1.ok.funs.mem z
      exact absurd (Nat.lt_of_lt_of_le (Heap.lt_size ho) (far e).1) (Nat.lt_irrefl _)
  have cln := clo_lam (P := X.prog) (w := X.w) (mg := X.mg) (base := X.base) (h := s1.heap) (H := H2) S hN (fun us hu => hbind _ _ _ _ _ us hu) ef C nK (fun A outer s H E hr => hbody _ _ _ _ A outer s H E hr)
  have e03 : Env0 X.prog X.w X.K X.mg X.base X.A X.stack s1 (lendH (cellS (cloFrom X.env.cells scope.names []) s1.heap) H2) := by
    have e0 := I1.env0
    refine ⟨e0.frames, e0.mod, fun b ob e => ⟨(e0.bs b ob e).1, ?_⟩, e0.bsz, e0.funs, fun b z => ?_, L3.okU (fun b ob e => (cellS_some e).2) e0.hok, e0.bare⟩
    · rw [L3.out b ?_]
      · exact (e0.bs b ob e).2
      · cases z : cellS (cloFrom X.env.cells scope.names []) s1.heap b with
        | none => rfl
        | some o' => exact absurd (Nat.lt_of_lt_of_le (Heap.lt_size e) (Nat.le_trans I1.ok.bsz (far z).1)) (Nat.lt_irrefl _)
    · rw [L3.out b ?_]
      · exact e0.frf b z
      · cases y : cellS (cloFrom X.env.cells scope.names []) s1.heap b with
        | none => rfl
        | some o' => exact absurd z (nstk b o' y)
  have repf : Rep X.K (lendH (cellS (cloFrom X.env.cells scope.names []) s1.heap) H2) m2 (.clo f ws xs) (.ref f) := by
    refine Rep.agr L3.agU _ _ ?_
    unfold Rep
    exact ⟨rfl, .inl ⟨_, _, c', ef, rfl, rfl, ec⟩, rw_⟩
  have tosp : toSpH X.prog X.w X.K X.mg X.base kc (fun g us φ => g = f ∧ us = ws ∧ φ = lamS ps.length cb) (sp (fun g us φ => g = f ∧ us = ws ∧ φ = lamS ps.length cb)) (.ref f :: vs') (lendH (cellS (cloFrom X.env.cells scope.names []) s1.heap) H2)
      (fun v H' => Q v (giveH (cellS (cloFrom X.env.cells scope.names []) s1.heap) H')) (fun cls d H' => Lent (cellS (cloFrom X.env.cells scope.names []) s1.heap) (giveH (cellS (cloFrom X.env.cells scope.names []) s1.heap) H') H' → W cls d σ (giveH (cellS (cloFrom X.env.cells scope.names []) s1.heap) H')) := by
    refine ⟨fun g us φ ⟨h1, h2, h3⟩ => by subst h1; subst h2; subst h3; exact cln.mono hkc, hc2, m2, _, P, _, r2.toWd.agr L3.agU, RepL.cons repf (RepL.agr L3.agU _ _ q2), hsp f ws, fun d hc' pd v H' m' x q => ?_, fun y hc' py cls dx H' m' x q LL => xo y sc hc' py cls dx σ _ m' (r.call (x1.trans (x2.trans (L3.exD LL x)))) (RepXK.agr LL.agD q)⟩
    have L4 : Lent (cellS (cloFrom X.env.cells scope.names []) s1.heap) (giveH (cellS (cloFrom X.env.cells scope.names []) s1.heap) H') H' := .give fun b ob e => x.keep b _ (L3.inn b ob e).2 trivial (hc_none r2.toWd (S_none b ob e))
    exact fin d hc' pd v _ m' (x1.trans (x2.trans (L3.exD L4 x))) (Rep.agr L4.agD _ _ q)
  have run := (FG (fun g us φ => g = f ∧ us = ws ∧ φ = lamS ps.length cb)).run X.A X.stack s1 _ ⟨us, []⟩ us (.ref f :: vs') _ _ (hr.g.mono hl) e03 (by
    have hl2 := (FG (fun g us φ => g = f ∧ us = ws ∧ φ = lamS ps.length cb)).len _ _ _ _ tosp
    have z := hb s1 us I1.kIn (by rw [List.append_nil, ← r1.length]; exact hl2)
    rw [List.append_nil] at z
    exact z) r1 tosp
  refine wpAny_call (codeAny_mono run fun z s' hq => ?_)
  match z, hq with
  | .error e, hq => exact hr.t e s' (XE.of_call I1 (fun _ _ _ z => z) (L3.cxD nstk (fun b o q => (cellS_some q).2) hq fun cls d H' LL x => x LL))
  | .ok .next, hq => exact False.elim hq
  | .ok .brk, hq => exact False.elim hq
  | .ok .cont, hq => exact False.elim hq
  | .ok (.ret u), hq =>
    obtain ⟨v, H', os, bare, un, hok, rv, qq⟩ := hq
    have L4 : Lent (cellS (cloFrom X.env.cells scope.names []) s1.heap) (giveH (cellS (cloFrom X.env.cells scope.names []) s1.heap) H') H' := .give fun b ob e => un.frzs b ob xT (L3.inn b ob e).2
    exact I1.after ⟨v, _, os, bare, L3.unD L4 nstk (fun b ob e => ⟨(cellS_some e).2, L4.at1 hok e⟩) un, L4.okD hok, rv, qq⟩
theorem e_LamC {sp : CloR → Spc} {js : List Nat} {n : Nat} {cb : CEx} {c : CAx} {E : XP} {sc : List Sl} {hc : CH} {P : D → CH → Prop} : cLamC sp js n cb c E sc hc P = ∃ xs, capsOf sc js = some xs ∧ c E sc hc fun ds hc1 => ∀ f ws, sp (fun g us φ => g = f ∧ us = ws ∧ φ = lamS n cb) (.clo f ws xs :: ds) hc1 P fun x hc2 => E x sc hc2 := rfl
end Mn

namespace Mn
open PySem PySem.Spec PyProof.Rows L2 NdefX
/-! ### defs with keyword-only parameters that have defaults -/
def DefAtK (K : PySem.W.Frag) (mg : Str → Option Value) (x : Str) (st : Stmt) (kws : List (Str × V)) : Prop := ∃ (f : Addr) (fd : FuncData), FunD K x x (defArgs st) (defBody st) (defScope st) [] kws f fd ∧ mg x = some (.ref f)
def FnAtK (P : Program) (w : World) (K : PySem.W.Frag) (mg : Str → Option Value) (base : Heap) (k : Nat) (x : Str) (ps : List Str) (n : Nat) (ks : List Str) (dds : List D) (sp : Spc) : Prop :=
  ∃ (f : Addr) (fd : FuncData) (dvs : List V), FnG P w K mg base (L2.CX P w) k f fd ps (toSp K mg sp) ∧ mg x = some (.ref f) ∧ PySem.W.keepIn K (.ref f) = true ∧ (∃ ds, Vals dvs ds ∧ Binds K fd ps ds) ∧ (∀ H m, RepL K H m dds dvs) ∧ KBn K fd ps n ks (fun us ws => us ++ ws) (fun vs zs => vs ++ zs)
theorem fnK_at {P : Program} {w : World} {K : PySem.W.Frag} {mg : Str → Option Value} {base : Heap} {x : Str} {st : Stmt} {N ps : List Str} {k n : Nat} {kws : List (Str × V)} {dds : List D} {sp : Spc} {c : CSx} (F : DefAtK K mg x st kws) (S : FnScope N ps (defScope st))
    (hb : ∀ (f : Addr) (cdv : Value) (A : Around) (outer : List Env) (s : Shared) (H : Hp) (E : XK), RT k (cxD P w K mg base N x (defScope st) f cdv A outer s H E) (WE E) → CSs (cxD P w K mg base N x (defScope st) f cdv A outer s H E) (WE E) (defBody st) c)
    (hl : ∀ ds hc Q E, sp ds hc Q E → ds.length = ps.length) (hp : ∀ ds hc (Q : D → CH → Prop) E, sp ds hc Q E → c { nx := fun _ hc' => Q .non hc', rt := Q, xp := fun x _ hc' => E x hc' } (startC N ds) hc)
    (hk : kws ≠ []) (hn : n + kws.length = ps.length) (hd : ∀ H m, RepL K H m dds (kws.map (·.2)))
    (h0 : ∀ (Dd : Addr) (doc pm : Value) (an : Option Addr) (cdv ct : Value) (us ks : List Value), us.length = n → ks.length = kws.length →
      KwChain Dd ((kws.map (·.1)).zip ks) (bindArgs (PySem.W.fnOf x x (defArgs st) (defBody st) (defScope st) .none (.ref Dd) doc pm an cdv ct) ⟨us, []⟩) (ps.zip (us ++ ks)))
    (h1 : ∀ (Dd : Addr) (doc pm : Value) (an : Option Addr) (cdv ct : Value) (us ws : List Value), us.length = n → ws.length = kws.length → bindArgs (PySem.W.fnOf x x (defArgs st) (defBody st) (defScope st) .none (.ref Dd) doc pm an cdv ct) ⟨us, (kws.map (·.1)).zip ws⟩ = pure (ps.zip (us ++ ws))) :
    FnAtK P w K mg base (k + 1) x ps n (kws.map (·.1)) dds sp := by
  obtain ⟨f, fd, F, hm⟩ := F
  refine ⟨f, fd, kws.map (·.2), fn_ok F S (hb f) hl hp, hm, F.kp, F.binds0 n hk hn h0, hd, ?_⟩
  obtain ⟨oc, od, dV, kV, doc, pm, an, cdv, ct, osl, rfl, lk, hcd, hD, hK⟩ := F.ex
  rcases hD with ⟨_, rfl⟩ | ⟨e, _⟩
  · rcases hK with e | ⟨Dd, rfl, _⟩
    · exact absurd e hk
    · refine ⟨fun s us ws _ l1 l2 => .of_eq (h1 Dd doc pm an cdv ct us ws l1 (by rw [l2, List.length_map])), fun r1 r2 => r1.append r2⟩
  · exact absurd rfl e
section
variable {X : Cx} {W : WX} {e : Expr} {es : List Expr} {kws : List Keyword} {c ck : CAx} {ce : CEx} {p pos : Pos}
structure CK (X : Cx) (W : WX) (kws : List Keyword) (c : CAx) : Prop where
  p : PK X kws (LA X W c)
theorem pk_wk {X : Cx} {kws : List Keyword} {t t' : TA} (h : PK X kws t) (g : ∀ σ H Q, t' σ H Q → t σ H Q) : PK X kws t' := ⟨fun pos pins s σ H Q I q => h.run pos pins s σ H Q I (g σ H Q q)⟩
theorem ck_nil : CK X W [] cNil := ⟨pk_wk pk_nil fun σ H Q ⟨en, sc, hc, m, E, P, r, k, xo, fin⟩ => fin _ hc k _ H m (.refl r.toWd) RepL.nil⟩
theorem ck_cons {nm : Option Str} {kpos : Pos} (ha : CE X W e ce) (hr : CK X W kws ck) : CK X W (⟨nm, e, kpos⟩ :: kws) (cCons ce ck) := ⟨pk_wk (pk_cons ha.p hr.p) fun σ H Q ⟨en, sc, hc, m, E, P, r, k, xo, fin⟩ =>
  ⟨en, sc, hc, m, E, _, r, k, xo, fun d hc1 hp v H1 m1 x1 q1 => ⟨en, sc, hc1, m1, E, _, r.call x1, hp, xo, fun ds hc2 hp2 vs H2 m2 x2 q2 => fin _ hc2 hp2 _ H2 m2 (x1.trans x2) (RepL.cons (Rep.mono x1.mu x2.stp _ _ q1) q2)⟩⟩⟩
/-- f(..), the keyword-only ones left out -/
def cCallD (sp : Spc) (dds : List D) (c : CAx) : CEx := fun E sc hc P => c E sc hc fun ds hc1 => sp (ds ++ dds) hc1 P fun x hc2 => E x sc hc2
theorem ce_fD {x : Str} {k l n : Nat} {ps ks : List Str} {dds : List D} {sp : Spc} (F : FnAtK X.prog X.w X.K X.mg X.base k x ps n ks dds sp) (hr : RT l X W) (ha : CA X W (e :: es) c) (hl : k ≤ l := by decide)
    (hg : Gl X x := by rfl) (hdb : (x == ("__debug__" : Str)) = false := by decide) (he : starEach (e :: es) X.env = (false, eval e X.env) :: starEach es X.env := by rfl) (hpl : (backTo pos (starEach es X.env)).any (·.1) = false := by rfl) : CE X W (.Call (.Name x p) (e :: es) [] pos) (cCallD sp dds c) := by
  obtain ⟨f, fd, dvs, F, hm, hk, ⟨ds0, rd, hb⟩, rdd, _⟩ := F
  exact ⟨pe_wk (pe_callX (F.mono hl) hr hg hm hk hb rd ha.p hdb he hpl) fun σ H Q ⟨en, sc, hc, m, E, P, r, k, xo, fin⟩ =>
    ⟨en, sc, hc, m, E, _, r, k, xo, fun ds hc1 hp vs H1 m1 x1 q1 => ⟨hc1, m1, ds ++ dds, P, _, x1.toWd, q1.append (rdd H1 m1), hp, fun d hc' pd v H' m' x q => fin d hc' pd v H' m' (x1.trans x) q, fun y hc' py cls dx H' m' x q => xo y sc hc' py cls dx σ H' m' (r.call (x1.trans x)) q⟩⟩⟩
/-- f(.., k = v) -/
def cCallK (sp : Spc) (n m : Nat) (c ck : CAx) : CEx := fun E sc hc P => c E sc hc fun ds hc1 => ck E sc hc1 fun zs hc2 => ds.length = n ∧ zs.length = m ∧ sp (ds ++ zs) hc2 P fun x hc3 => E x sc hc3
theorem ce_fK {x : Str} {k l n mk : Nat} {ps ks : List Str} {dds : List D} {sp : Spc} (F : FnAtK X.prog X.w X.K X.mg X.base k x ps n ks dds sp) (hr : RT l X W) (ha : CA X W (e :: es) c) (hkw : CK X W kws ck) (hmk : ks.length = mk := by rfl) (hl : k ≤ l := by decide)
    (hall : (backToKw pos (keywordEach kws X.env)).all (·.1.isSome) = true := by rfl) (hks : (backToKw pos (keywordEach kws X.env)).filterMap (·.1) = ks := by rfl)
    (hg : Gl X x := by rfl) (hdb : (x == ("__debug__" : Str)) = false := by decide) (he : starEach (e :: es) X.env = (false, eval e X.env) :: starEach es X.env := by rfl)
    (hpl : ((backTo pos (starEach (e :: es) X.env)).any (·.1) || (backToKw pos (keywordEach kws X.env)).any (·.1.isNone)) = false := by rfl) : CE X W (.Call (.Name x p) (e :: es) kws pos) (cCallK sp n mk c ck) := by
  subst hmk
  obtain ⟨f, fd, dvs, F, hm, hk, _, rdd, KB⟩ := F
  have F2 := F.mono hl
  refine ⟨⟨fun pins s σ H Q I ⟨en, sc, hc, m, E, P, r, kk, xo, fin⟩ => ?_⟩⟩
  refine wpAny_Call_Name_kw (ld_glob I hg hm ?_ hdb)
  refine PySem.W.callWith_KW (h₀ := X.base) I.ok.mod.kin hk hall (thn (ha.p.run pos pins s σ H (fun vs H1 => ∃ ds hc1 m1, Ex X.K ⟨H, hc, m⟩ H1 hc1 m1 ∧ RepL X.K H1 m1 ds vs ∧ ck E sc hc1 fun zs hc2 => ds.length = n ∧ zs.length = ks.length ∧ sp (ds ++ zs) hc2 P fun x hc3 => E x sc hc3) I ⟨en, sc, hc, m, E, _, r, kk, xo, fun ds hc1 hp vs H1 m1 x1 q1 => ⟨ds, hc1, m1, x1, q1, hp⟩⟩) fun us s1 ⟨vs, H1, I1, ru, ds, hc1, m1, x1, q1, k1⟩ => ?_) hpl he
  refine thn (hkw.p.run pos pins s1 σ H1 (fun zv H2 => vs.length = n ∧ zv.length = ks.length ∧ toSp X.K X.mg sp (vs ++ zv) H2 Q fun cls d H' => W cls d σ H') I1 ⟨en, sc, hc1, m1, E, _, r.call x1, k1, xo, fun zs hc2 hp zv H2 m2 x2 q2 => ⟨by rw [← q1.length]; exact hp.1, by rw [← q2.length]; exact hp.2.1, hc2, m2, ds ++ zs, P, _, x2.toWd, (RepL.mono x1.mu x2.stp _ _ q1).append q2, hp.2.2, fun d hc' pd v H' m' x q => fin d hc' pd v H' m' (x1.trans (x2.trans x)) q, fun y hc' py cls dx H' m' x q => xo y sc hc' py cls dx σ H' m' (r.call (x1.trans (x2.trans x))) q⟩⟩) fun ws s2 ⟨zv, H2, I2, rz, l1, l2, q2⟩ => ⟨I2.kIn, ?_⟩
  rw [hks]
  have r2 := KB.rel ru rz
  refine wpAny_call (codeAny_mono (F2.run X.A X.stack s2 H2 ⟨us, ks.zip ws⟩ (us ++ ws) (vs ++ zv) Q _ hr.g I2.env0 (KB.to s2 us ws I2.kIn (ru.length.symm.trans l1) (rz.length.symm.trans l2)) r2 q2) fun z s' hq => ?_)
  match z, hq with
  | .error e, hq => exact hr.t e s' (XE.of_call I2 (fun _ _ _ z => z) hq)
  | .ok (.ret u), hq => exact I2.after hq
  | .ok .next, hq => exact False.elim hq
  | .ok .brk, hq => exact False.elim hq
  | .ok .cont, hq => exact False.elim hq
end
theorem e_CallD {sp : Spc} {dds : List D} {c : CAx} {E : XP} {sc : List Sl} {hc : CH} {P : D → CH → Prop} : cCallD sp dds c E sc hc P = c E sc hc fun ds hc1 => sp (ds ++ dds) hc1 P fun x hc2 => E x sc hc2 := rfl
theorem e_CallK {sp : Spc} {n m : Nat} {c ck : CAx} {E : XP} {sc : List Sl} {hc : CH} {P : D → CH → Prop} : cCallK sp n m c ck E sc hc P = c E sc hc fun ds hc1 => ck E sc hc1 fun zs hc2 => ds.length = n ∧ zs.length = m ∧ sp (ds ++ zs) hc2 P fun x hc3 => E x sc hc3 := rfl
theorem e_CallV {Γ : CloR} {i : Nat} {c : CAx} {E : XP} {sc : List Sl} {hc : CH} {P : D → CH → Prop} : cCallV Γ i c E sc hc P = (match look sc i with
  | some (.clo f ws xs) => ∃ φ, Γ f ws φ ∧ c E sc hc fun ds hc1 => φ xs ds hc1 P fun x hc2 => E x sc hc2
  | _ => False) := rfl
/-! ### defs that make lambdas -/
def lamN (K : PySem.W.Frag) (x : Str) : Bool := PySem.W.codeHdIn K (He.codeOf K (x, none)) (He.tabOf K (He.codeOf K (x, none)))
/-- a def's code object and its table are known -/
def LamN (K : PySem.W.Frag) (mg : Str → Option Value) (x : Str) : Prop := lamN K x = true ∧ mg x = some (.ref (He.ga K x))
theorem lamN_of {K : PySem.W.Frag} {mg : Str → Option Value} {base : Heap} {x : Str} {f : Addr} {oc : Value} {od : Option Addr} {osl : Array (Option Value)} {params : Arguments} {body : List Stmt} {scope : Scope} {dV kV doc pm cdv ct : Value} {an : Option Addr} (l : LamN K mg x) (B : BaseT K mg base) (KX : K.In base)
    (lk : K.lookup f = some ⟨oc, od, .func (PySem.W.fnOf x x params body scope dV kV doc pm an cdv ct), osl⟩) (hm : mg x = some (.ref f)) (hcd : PySem.W.codeIn K cdv x = true) : ∃ c P, cdv = .ref c ∧ (P, x ++ ".<locals>." ++ "<lambda>") ∈ tabsL K ∧ LamX.TabB base mg c P := by
  obtain ⟨c, rfl⟩ := He.codeIn_ref hcd
  have ef : f = He.ga K x := by
    have e := l.2
    rw [hm] at e; cases e; rfl
  have lk2 : K.lookup (He.fAd K (x, none)) = some ⟨oc, od, .func (PySem.W.fnOf x x params body scope dV kV doc pm an (.ref c) ct), osl⟩ := by
    rw [← lk, ef]
    rfl
  have ec := He.codeOf_eq lk2 rfl
  have hc := l.1
  unfold lamN at hc
  rw [ec] at hc
  have mem : (He.tabOf K c, x ++ ".<locals>." ++ "<lambda>") ∈ tabsL K := by
    refine List.mem_filterMap.mpr ⟨(f, ⟨oc, od, .func (PySem.W.fnOf x x params body scope dV kV doc pm an (.ref c) ct), osl⟩), He.lookup_mem lk, ?_⟩
    show (if PySem.W.codeHdIn K c (He.tabOf K c) = true then some (He.tabOf K c, x ++ ".<locals>." ++ "<lambda>") else none) = _
    rw [if_pos hc]
  have hb := B (He.tabOf K c) (List.mem_map.mpr ⟨_, mem, rfl⟩)
  exact ⟨c, _, rfl, mem, PySem.W.codeHd_of_K KX hc, hb.1, hb.2⟩
/-- the rule of a def that makes lambdas: its code object is known to the body -/
theorem fnL_at {P : Program} {w : World} {K : PySem.W.Frag} {mg : Str → Option Value} {base : Heap} {x : Str} {st : Stmt} {N ps : List Str} {k : Nat} {sp : Spc} {c : CSx} (F : DefAt K mg x st) (l : LamN K mg x) (B : BaseT K mg base) (KX : K.In base) (S : FnScope N ps (defScope st))
    (hb : ∀ (f : Addr) (cdv : Value) (A : Around) (outer : List Env) (s : Shared) (H : Hp) (E : XK), RT k (cxD P w K mg base N x (defScope st) f cdv A outer s H E) (WE E) → (∃ cc Pt, cdv = .ref cc ∧ (Pt, x ++ ".<locals>." ++ "<lambda>") ∈ tabsL K ∧ LamX.TabB base mg cc Pt) → CSs (cxD P w K mg base N x (defScope st) f cdv A outer s H E) (WE E) (defBody st) c)
    (hl : ∀ ds hc Q E, sp ds hc Q E → ds.length = ps.length) (hp : ∀ ds hc (Q : D → CH → Prop) E, sp ds hc Q E → c { nx := fun _ hc' => Q .non hc', rt := Q, xp := fun x _ hc' => E x hc' } (startC N ds) hc)
    (hbi : ∀ (kV doc pm : Value) (an : Option Addr) (cdv ct : Value) (us : List Value), us.length = ps.length → bindArgs (PySem.W.fnOf x x (defArgs st) (defBody st) (defScope st) .none kV doc pm an cdv ct) ⟨us, []⟩ = pure (ps.zip us)) : FnAt P w K mg base (k + 1) x ps sp := by
  obtain ⟨f, fd, F, hm⟩ := F
  obtain ⟨oc, od, dV, kV, doc, pm, an, cdv, ct, osl, rfl, lk, hcd, _, _⟩ := F.ex
  refine ⟨f, _, ?_, hm, F.kp, F.bindsN hbi, oc, od, osl, lk⟩
  have kn := lamN_of l B KX lk hm hcd
  exact fnG_of lk hcd S (fun vs H Q E ⟨hc, m, ds, P', PE, w', rl, h, _⟩ => by rw [← rl.length]; exact hl ds hc _ _ h) fun A outer s H vs Q E hr ⟨hc, m, ds, P', PE, w', rl, h, f1, f2⟩ => ⟨_, (hb f cdv A outer s H E (rt_of hr) kn).p, ⟨_, _, hc, m, _, start_rs w' rl, hp ds hc P' PE h, end_of f1 f2⟩⟩
/-! ### the hook, with the defs that make lambdas -/
def obsLG (n : Nat) (fa : List He.Fa) (fn : List He.DefD) (tc : TupC) (lm : List Str) (g : Addr → Option Obj) : (He.AlD × Bool) × Bool := (obsTG n fa fn tc g, lm.all (lamN (He.frT g (He.asD g n ++ [sysModules, cStatics]))))
def hookL (n : Nat) (fa : List He.Fa) (fn : List He.DefD) (tc : TupC) (lm : List Str) : PySem.W.Hook where
  α := (He.AlD × Bool) × Bool
  obs := fun s => obsLG n fa fn tc lm s.heap.get?
  val := fun _ => ((He.valD fn, true), true)
  says := fun _ h => ∃ K : PySem.W.Frag, K.In h ∧ SaysT fa fn tc K h ∧ ∀ x ∈ lm, lamN K x = true
  of := fun _ s e => by
    have e1 : obsTG n fa fn tc s.heap.get? = (He.valD fn, true) := congrArg (fun z : (He.AlD × Bool) × Bool => z.1) e
    have e2 : lm.all (lamN (He.frT s.heap.get? (He.asD s.heap.get? n ++ [sysModules, cStatics]))) = true := congrArg (fun z : (He.AlD × Bool) × Bool => z.2) e
    exact ⟨He.frT s.heap.get? (He.asD s.heap.get? n ++ [sysModules, cStatics]), He.frT_in, saysT_of e1, fun x hx => List.all_eq_true.mp e2 x hx⟩
  keeps := fun _ _ _ ⟨K, hK, ⟨c, d, t⟩, l⟩ k => ⟨K, PySem.W.Frag.In.keeps hK k, ⟨c, d, fun b hb => ⟨k _ _ (t b hb).1, (t b hb).2⟩⟩, l⟩
theorem obsLG_eq {n : Nat} {fa : List He.Fa} {fn : List He.DefD} {tc : TupC} {lm : List Str} {g : Addr → Option Obj} {s : Shared} (h : ∀ a, g a = s.heap.get? a) : obsLG n fa fn tc lm g = (hookL n fa fn tc lm).obs s := by
  have e : g = s.heap.get? := funext h
  subst e
  rfl
end Mn

set_option maxHeartbeats 2000000
namespace Mn
open PySem PySem.Spec PyProof.Rows L2 NdefX
/-! ### own exceptions with one field, set by __init__ behind super().__init__(..) -/
/-- the program's file is the one that the code names, and nothing of its is called super -/
structure Sup (P : Program) (file : Str) : Prop where
  f : (P.main.file == file) = true
  s : (P.main.scope.names.lookup ("super" : Str)).isSome = false
/-- def __init__(self, px): super().__init__(px); self.f = px -/
def IniBody (px f : Str) (body : List Stmt) : Prop := ∃ p0 p1 p2 p3 p4 p5 p6 p7 p8 p9, ((p2 : Pos).endLine == (p4 : Pos).line) = true ∧ body = [.Expr (.Call (.Attribute (.Call (.Name "super" p0) [] [] p1) "__init__" p2) [.Name px p3] [] p4) p5, .Assign [.Attribute (.Name "self" p6) f p7] (.Name px p8) p9]
/-- what the written part says of such a class -/
structure OwnX (K : PySem.W.Frag) (C : Addr) (B newId initId : String) (bmB : List Value) (px f file : Str) : Prop where
  FB : PySem.ExcBaseFacts B newId initId bmB
  SF : PySem.StoreFacts B bmB "object.__setattr__" "object"
  KF : PySem.W.KxsFacts B initId
  q : PySem.W.excInitIn K C bmB newId = true
  ov : PySem.W.excOver K C bmB = true
  hd : PySem.W.hasDictIn K C = true
  sa : PySem.W.findIn K (.ref C) "__setattr__" = some (some (.builtin "object.__setattr__"))
  no : PySem.W.findIn K (.ref C) f = some none
  sup : PySem.W.ks_superIn K C C "__init__" = some (some (.builtin initId))
  sB : PySem.W.subIn K (.ref C) (.type B) = some true
  sC : PySem.W.mroIn K C (.ref C) = some true
  exC : PySem.W.subIn K (.ref C) (.type "BaseException") = some true
  tyC : PySem.W.typeIn K (.ref C) = some (.type "type")
  kC : PySem.W.keepIn K (.ref C) = true
  opq : PySem.W.nsIn K cStatics "thirdparty.any" = some none
  fn : ∃ (fI cc cda : Addr) (q : Str) (params : Arguments) (body : List Stmt) (scope : Scope) (dV kV doc pm ct oc ccl cl : Value) (an od cdd cld : Option Addr) (osl ccs csl : Array (Option Value)) (vs : Array Value) (tf : Tok) (ar : Arg),
    PySem.W.findIn K (.ref C) "__init__" = some (some (.ref fI)) ∧ PySem.W.typeIn K (.ref fI) = some (.type "function") ∧ K.lookup fI = some ⟨oc, od, .func (PySem.W.ksFn "__init__" q params body scope dV kV doc pm an (.ref cda) ct cc), osl⟩ ∧
    PySem.W.codeIn K (.ref cda) q = true ∧ K.lookup cda = some ⟨ccl, cdd, .fields vs, ccs⟩ ∧ vs[2]? = some (.str file tf) ∧ K.lookup cc = some ⟨cl, cld, .cell (some (.ref C)), csl⟩ ∧ IniBody px f body ∧
    (∀ a u : Value, bindArgs (PySem.W.ksFn "__init__" q params body scope dV kV doc pm an (.ref cda) ct cc) ⟨[a, u], []⟩ = pure [(("self" : Str), a), (px, u)]) ∧
    (params.posonlyargs ++ params.args).head? = some ar ∧ ar.arg = "self" ∧ (px == ("__debug__" : Str)) = false ∧ px ≠ "self" ∧
    scope.names.lookup ("super" : Str) = some .globalImplicit ∧ scope.names.lookup ("__class__" : Str) = some .free ∧ scope.names.lookup ("self" : Str) = some .local ∧ scope.names.lookup px = some .local ∧
    scope.kind = .function ∧ scope.isCoroutine = false ∧ scope.isGenerator = false ∧ ∀ x ∈ scope.names, x.2 ≠ .cell
section
variable {prog : Program} {w : World} {A : Around} {K : PySem.W.Frag} {C : Addr} {B newId initId : String} {bmB : List Value} {px f file : Str} {mg mb : Str → Option Value} {s : Shared} {u : Value} {R : Result → Shared → Prop}
open Builtin Builtin.ObjectAttr in
theorem own_osa {prog : Program} {w : World} {A : Around} {hp : Heap} {g : Array GenState} {d : Drawn} {t : Nat} {os : OsState} {name : Str} {tk : Tok} {v : Value} {x t1 : Addr} {R : Result → Shared → Prop} (SF : PySem.StoreFacts B bmB "object.__setattr__" "object") (X : K.In hp)
    (hx : hp.get? x = some ({ cls := .ref C, data := .fields #[.ref t1, .none, .none, .none, .bool false, .none] } : Obj)) (ov : PySem.W.excOver K C bmB = true) (hd : PySem.W.hasDictIn K C = true) (no : PySem.W.findIn K (.ref C) name = some none)
    (hq : ∀ h' tk' dx, (∀ b o, b ≠ x → hp.get? b = some o → h'.get? b = some o) → hp.objs.size ≤ dx → dx ≠ x → h'.get? x = some ({ cls := .ref C, dict := some dx, data := .fields #[.ref t1, .none, .none, .none, .bool false, .none] } : Obj) →
      h'.Ns1 dx (fun y => if y = name then some v else none) → R (.ok (.ret .none)) ⟨h', g, d, tk', os⟩) :
    codeAny (model prog w) A (.call (.builtin "object.__setattr__") ⟨[.ref x, .str name tk, v], []⟩) R ⟨hp, g, d, t, os⟩ := by
  refine PySem.W.osa_openX (od := none) SF X ⟨hx, rfl, rfl, trivial⟩ ov (r := none) (by unfold PySem.W.takerIn; rw [no]; rfl) fun b => ?_
  obtain ⟨cd, hc, hd'⟩ := PySem.W.any_some hd
  have hxs : x ≠ hp.objs.size := Nat.ne_of_lt (Heap.lt_size hx)
  refine wpAny_bind (wpAny_pure (wpAny_bind (PySem.W.instanceDict_exc hx (PySem.W.looks_clsIn X hc) hd' ?_)))
  show wpAny _ _ (storeInDict hp.objs.size (.str name tk) name v) _ _ _
  refine PySem.HandSPX.store_in_new ?_ (fun h' tk' hn' hs => ?_)
  · exact ⟨_, #[], _, (Heap.get?_update_ne _ _ _ _ hxs.symm).trans (Heap.get?_push_at rfl rfl), rfl, fun e he => absurd he (by simp), fun _ => rfl⟩
  · refine hq h' tk' hp.objs.size (fun b o hb ho => ?_) (Nat.le_refl _) hxs.symm ?_ hn'
    · exact (hs.2 b (Nat.ne_of_lt (Heap.lt_size ho))).trans ((Heap.get?_update_ne _ _ _ _ hb).trans (Heap.get?_push_of_some _ ho))
    · exact (hs.2 x hxs).trans (Heap.get?_update_self _ (Heap.get?_push_of_some _ hx) rfl)
theorem own_call (T : OwnX K C B newId initId bmB px f file) (S : Sup prog file) (X : K.In s.heap) (G : s.heap.Ns mainGlobals mg) (ng : mg "super" = none) (Bn : s.heap.Ns builtinsNs mb) (hb : mb "super" = bootBuiltins "super") (lim : s.heap.NoLimit) (room : Room 1 A)
    (hq : ∀ h' e dx t1 tk, (∀ b o, s.heap.get? b = some o → h'.get? b = some o) → s.heap.objs.size ≤ e → s.heap.objs.size ≤ dx → dx ≠ e → h'.get? e = some ({ cls := .ref C, dict := some dx, data := .fields #[.ref t1, .none, .none, .none, .bool false, .none] } : Obj) →
      h'.Ns1 dx (fun y => if y = f then some u else none) → R (.ok (.ret (.ref e))) { s with heap := h', toks := tk }) :
    codeAny (model prog w) A (.call (.ref C) ⟨[u], []⟩) R s := by
  obtain ⟨nm, N, qn, bs, bm, hdct, sn, sub, ab, col, dd, k0, k1, k2, k3, k5, hC, hT⟩ := PySem.W.excInit_of X T.q
  obtain ⟨fI, cc, cda, q, params, body, scope, dV, kV, doc, pm, ct, oc, ccl, cl, an, od, cdd, cld, osl, ccs, csl, vs, tf, ar, e1, e2, e3, e4, e5, e6, e7, e8, e9, e10, e11, e12, e13, e14, e15, e16, e17, e18, e19, e20, e21⟩ := T.fn
  obtain ⟨p0, p1, p2, p3, p4, p5, p6, p7, p8, p9, el, rfl⟩ := e8
  obtain ⟨skd, snm, sgn, sco, smr⟩ := scope
  have e18 : skd = .function := e18
  subst e18
  obtain ⟨hp, g, d, t, os⟩ := s
  refine PySem.HandSPX.call_own T.FB hT hC (PySem.W.looks_findIn X e1) (fun self => PySem.W.bind_fn X self e2) (by rw [sizeLine_eq]; simp) ?_
  have kk : ∀ b o, hp.get? b = some o → ((hp.push (PySem.W.kdv_tup [u])).push (PySem.HandSPX.excO C hp.objs.size)).get? b = some o := fun b o e => Heap.get?_push_of_some _ (Heap.get?_push_of_some _ e)
  have he : ((hp.push (PySem.W.kdv_tup [u])).push (PySem.HandSPX.excO C hp.objs.size)).get? (hp.objs.size + 1) = some (PySem.HandSPX.excO C hp.objs.size) := by heap_get
  have sz : ((hp.push (PySem.W.kdv_tup [u])).push (PySem.HandSPX.excO C hp.objs.size)).objs.size = hp.objs.size + 2 := by simp [Heap.push]
  revert kk he sz
  generalize ((hp.push (PySem.W.kdv_tup [u])).push (PySem.HandSPX.excO C hp.objs.size)) = h0
  intro kk he sz
  have X0 : K.In h0 := X.keeps kk
  refine PySem.ks_codeAny_call_defAt (fd := PySem.W.ksFn "__init__" q params _ ⟨.function, snm, sgn, sco, smr⟩ dV kV doc pm an (.ref cda) ct cc) (binds := [(("self" : Str), .ref (hp.objs.size + 1)), (px, u)]) (room.make C [u] []).depth (X0 _ _ e3) rfl (lim.keeps kk) (PySem.W.codeRec_of X0 e4) rfl (BindsTo.of_eq (e9 _ _)) e21 (fun y hy => ?_) (fun h1 hns k1 => ?_) e19 e20 e18
  · rcases List.mem_cons.mp hy with rfl | hy
    · exact e16
    · rcases List.mem_cons.mp hy with rfl | hy
      · exact e17
      · cases hy
  have X1 : K.In h1 := X0.keeps k1
  have he1 := k1 _ _ he
  have hself : (fun x : Str => [(("self" : Str), Value.ref (hp.objs.size + 1)), (px, u)].reverse.lookup x) "self" = some (.ref (hp.objs.size + 1)) := by
    have z : (("self" : Str) == px) = false := by simpa using Ne.symm e13
    show List.lookup ("self" : Str) [(px, u), (("self" : Str), Value.ref (hp.objs.size + 1))] = _
    rw [List.lookup_cons, z, List.lookup_cons, beq_self_eq_true]
  have hpx : (fun x : Str => [(("self" : Str), Value.ref (hp.objs.size + 1)), (px, u)].reverse.lookup x) px = some u := by
    show List.lookup px [(px, u), (("self" : Str), Value.ref (hp.objs.size + 1))] = _
    rw [List.lookup_cons, beq_self_eq_true]
  generalize hen : callEnv (PySem.W.ksFn "__init__" q params [.Expr (.Call (.Attribute (.Call (.Name "super" p0) [] [] p1) "__init__" p2) [.Name px p3] [] p4) p5, .Assign [.Attribute (.Name "self" p6) f p7] (.Name px p8) p9] ⟨.function, snm, sgn, sco, smr⟩ dV kV doc pm an (.ref cda) ct cc) h0.objs.size fI = env
  have k_super : env.kindOf "super" = some .globalImplicit := by rw [← hen]; exact e14
  have k_class : env.kindOf "__class__" = some .free := by rw [← hen]; exact e15
  have k_self : env.kindOf "self" = some .local := by rw [← hen]; exact e16
  have k_px : env.kindOf px = some .local := by rw [← hen]; exact e17
  have k_fn : env.scope.kind = .function := by rw [← hen]; rfl
  have l_ns : h1.Ns env.locals fun x : Str => [(("self" : Str), Value.ref (hp.objs.size + 1)), (px, u)].reverse.lookup x := by rw [← hen]; exact hns
  have nsw : ∀ (x : Str) (p : Pos) (t : Option Expr) (l : Nat), swapsWith (.Name x p) t l env = pure false := fun _ _ _ _ => rfl
  have kk1 : ∀ b o, hp.get? b = some o → h1.get? b = some o := fun b o e => k1 _ _ (kk b o e)
  refine PySem.ks_wpAt_execs_cons (PySem.ks_wpAt_Expr_any (PySem.ks_wpAt_MethodCall (pl := do return (← importBound (.Call (.Name "super" p0) [] [] p1) env).getD true) ?_ ?_) ?_ ?_)
  · refine PySem.ks_wpAt_super_base (env := env) k_super k_class rfl (by rw [← hen]; rfl) (X1 _ _ e3) rfl e10 (by rw [← hen]; rfl) (X1 _ _ e5) rfl e6 S.f S.s ?_
    refine PySem.W.ks_loadName_global k_fn k_super (Calls.loadGlobal_builtin (env := env) (mg := mg) (mb := mb) (by rw [← hen]; exact G.keeps kk1) ng (by rw [← hen]; exact Bn.keeps kk1) (hb.trans (by decide +kernel)) ⟨rfl, ?_⟩)
    refine wpAny_loadName_free k_fn k_class (c := cc) (v := .ref C) (by rw [← hen]; rfl) ⟨_, X1 _ _ e7, rfl⟩ ?_
    rw [e11]
    refine wpAny_loadName_local k_fn k_self l_ns hself ?_
    refine PySem.ks_wpAny_isType_cls (kk1 _ _ hC) rfl ⟨rfl, ?_⟩
    refine PySem.ks_wpAny_call_super (kk1 _ _ hC) rfl he1 rfl (fun c e => by cases e) (PySem.W.looks_mroIn X1 T.sC) (fun h2 e_so k2 => ?_)
    have X2 : K.In h2 := X1.keeps k2
    have hm := T.sup
    cases hc : PySem.W.clsIn K C with
    | none =>
      unfold PySem.W.ks_superIn at hm
      rw [hc] at hm
      cases hm
    | some cd =>
      unfold PySem.W.ks_superIn at hm
      rw [hc] at hm
      have I2 : PySem.W.InstAt h2 (hp.objs.size + 1) (PySem.HandSPX.excO C hp.objs.size) C none := ⟨k2 _ _ he1, rfl, rfl, trivial⟩
      refine PySem.W.kxs_getMethod T.KF e_so (PySem.W.looks_opaque X2 T.opq) (l₀ := cd.mro) (fun A Q E s k q => wpAny_bind ((PySem.W.looks_clsIn X2 hc) A _ E s k (wpAny_pure q))) rfl X2 hm (I2.type.andThen (PySem.W.looks_subIn X2 T.sB)) (PySem.W.ks_ne X2 I2 hc) rfl ?_
      have km : ∀ b o, h2.get? b = some o → (h2.push (PySem.W.kxs_mw initId (hp.objs.size + 1))).get? b = some o := fun b o e => Heap.get?_push_of_some _ e
      have hmw : (h2.push (PySem.W.kxs_mw initId (hp.objs.size + 1))).get? h2.objs.size = some (PySem.W.kxs_mw initId (hp.objs.size + 1)) := Heap.get?_push_at rfl rfl
      have he3 := km _ _ (k2 _ _ he1)
      have k13 : ∀ b o, h1.get? b = some o → (h2.push (PySem.W.kxs_mw initId (hp.objs.size + 1))).get? b = some o := fun b o e => km _ _ (k2 _ _ e)
      revert km hmw he3 k13
      generalize h2.push (PySem.W.kxs_mw initId (hp.objs.size + 1)) = h3
      intro km hmw he3 k13
      refine PySem.W.kxs_callWith (i := initId) (x := hp.objs.size + 1) (by rfl) ?_
      show wpAny _ _ (evalArgs (.ref h2.objs.size) true ((false, eval (.Name px p3) env) :: backTo p4 (starEach [] env)) []) _ _ _
      refine Calls.evalArgs_plain ?_
      refine Calls.spliced_cons (PySem.ESX.ldL (l_ns.keeps k13) hpx (Calls.spliced_nil ⟨hmw, ?_⟩) k_fn k_px e12)
      have hC3 := k13 _ _ (kk1 _ _ hC)
      refine wpAny_call (codeAny_of_tree ?_)
      show wpAny _ _ (callAny (.ref h2.objs.size) ⟨[u], []⟩) _ _ _
      simp only [callAny]
      refine wpAny_bind (wpAny_load hmw ?_)
      simp only [PySem.W.kxs_mw, show (Value.type "method-wrapper" == Value.type "method" || Value.type "method-wrapper" == Value.type "builtin_function_or_method" || Value.type "method-wrapper" == Value.type "method-wrapper") = true by decide, if_true]
      refine PySem.W.KFB.if_so (by decide) ?_
      refine wpAny_bind (PySem.W.check_bound_init T.FB.toExcCallFacts hC3 he3 rfl ?_)
      refine wpAny_bind (wpAny_pure (wpAny_pure ?_))
      refine ⟨PySem.plainId_quiet T.FB.init.plain _, codeAny_builtin T.FB.initEntry ?_⟩
      refine PySem.W.exc_init_tree (cls := .ref C) (t0 := hp.objs.size) (dv := none) (c2 := .none) (c3 := .none) (b4 := .bool false) he3 (by rw [sizeLine_eq]; simp) (fun h4 k4 he4 _ => ?_)
      have far : ∀ {b : Addr} {o : Obj}, hp.get? b = some o → b ≠ hp.objs.size + 1 := fun e => Nat.ne_of_lt (Nat.lt_succ_of_lt (Heap.lt_size e))
      have kk4 : ∀ b o, hp.get? b = some o → h4.get? b = some o := fun b o e => k4 _ _ (far e) (k13 _ _ (kk1 _ _ e))
      have X4 : K.In h4 := X.keeps kk4
      have nL : env.locals ≠ hp.objs.size + 1 := by
        have z : env.locals = h0.objs.size := by rw [← hen]; rfl
        rw [z, sz]
        exact Nat.succ_ne_self _
      have l4 : h4.Ns env.locals fun x : Str => [(("self" : Str), Value.ref (hp.objs.size + 1)), (px, u)].reverse.lookup x := by
        obtain ⟨oL, es, ep, a1, a2⟩ := l_ns.keeps k13
        exact ⟨oL, es, ep, k4 _ _ nL a1, a2⟩
      refine PySem.ks_wpAt_execs_cons (PySem.ks_wpAt_Assign_Attr (PySem.wpAt_of_wpAny (PySem.ESX.ldL l4 hpx (PySem.ESX.ldL l4 hself ?_ k_fn k_self rfl) k_fn k_px e12)) rfl)
      refine PySem.W.set_plain X4 (od := none) ⟨he4, rfl, rfl, trivial⟩ T.sa (own_osa T.SF X4 he4 T.ov T.hd T.no (fun h5 tk dx k5 d5 ne5 he5 n5 => ?_))
      refine PySem.wpAt_of_wpAny (wpAny_execs_nil ⟨rfl, ?_⟩)
      exact hq h5 (hp.objs.size + 1) dx _ tk (fun b o e => k5 _ _ (far e) (kk4 _ _ e)) (Nat.le_succ _) (Nat.le_trans (Nat.le_of_lt (Nat.lt_of_succ_lt (Heap.lt_size he4))) d5) ne5 he5 n5
  · show (do
      let ov ← attributeBase (.Call (.Name "super" p0) [] [] p1) "__init__" env (eval (.Call (.Name "super" p0) [] [] p1) env)
      standAt p2.atName
      methodCall (.Call (.Name "super" p0) [] [] p1) "__init__" p2 p4 env ov 1 (backTo p4 (starEach [.Name px p3] env)) (backToKw p4 (keywordEach [] env))) = _
    unfold methodCall calleeOf methodCallPos
    rw [show methodCallForm 1 (backTo p4 (starEach [.Name px p3] env)) (backToKw p4 (keywordEach [] env)) = true from rfl, show (!true || p2.endLine == p4.line) = true from el]
    simp only [if_true, pure_bind, bind_assoc]
    rfl
  · unfold interactive
    rw [k_fn]
    rfl
  · rfl
end
end Mn

set_option maxHeartbeats 2000000
namespace Mn
open PySem PySem.Spec PyProof.Rows L2 NdefX
/-! ### raise C(e) -/
section
variable {X : Cx} {W : WX} {x px f file : Str} {C : Addr} {B newId initId : String} {bmB : List Value} {e : Expr} {p pos pos' : Pos}
theorem pmk_own {ta : L2.TA} (T : OwnX X.K C B newId initId bmB px f file) (S : Sup X.prog file) (k : RG 1 X.A) (hm : X.mg x = some (.ref C)) (ns : X.mg "super" = none) (ha : PA X [e] ta) (hg : Gl X x := by rfl) (hdb : (x == ("__debug__" : Str)) = false := by decide)
    (he : starEach [e] X.env = (false, eval e X.env) :: starEach [] X.env := by rfl) (hpl : (backTo pos (starEach [] X.env)).any (·.1) = false := by rfl) :
    PMk X (.Call (.Name x p) [e] [] pos) (fun σ H Q => ta σ H fun vs H1 => ∃ y, vs = [y] ∧ ∀ dx, H1 dx = none → Q (.ref C) (some dx) (upd H1 dx (.xd [(f, y)]))) := by
  intro pins s σ H Q I h
  refine wpAny_Call_Name_kw (ld_glob I hg hm ?_ hdb)
  refine PySem.W.callWith_K (h₀ := X.base) I.ok.mod.kin T.kC (thn (ha.run pos pins s σ H _ I h) fun us s1 ⟨vs, H1, I1, r1, y, ey, q1⟩ => ⟨I1.kIn, ?_⟩) he hpl
  subst ey
  obtain ⟨u, rfl, ry⟩ : ∃ u, us = [u] ∧ RelV y u := by
    cases r1 with
    | cons ry rr =>
      cases rr
      exact ⟨_, rfl, ry⟩
  show wpAny _ _ (call (.ref C) [u]) _ _ _
  obtain ⟨mb, hb1, hb2⟩ := I1.mod.blt
  refine wpAny_call (own_call T S I1.kIn (I1.mod.glob.keeps I1.bk) ns (hb1.keeps I1.bk) (hb2 _ (by decide)) (I1.mod.nolimit.keeps I1.bk) k.r (fun h' a dx t1 tk kp ha hd ne ea nd => ?_))
  obtain ⟨G, g1, g2⟩ := restrict h' fun b => decide (b ≠ a)
  have gk : ∀ b o, b ≠ a → h'.get? b = some o → G.get? b = some o := fun b o hb e => by
    rw [g1 b (by simpa using hb)]
    exact e
  have J : Inv X pins σ (upd H1 dx (.xd [(f, y)])) { s1 with heap := G, toks := tk } := I1.laid (fun b o e => gk b o (Nat.ne_of_lt (Nat.lt_of_lt_of_le (Heap.lt_size e) ha)) (kp b o e)) hd ⟨_, nd.at (fun o e => gk _ _ ne e), relO_put (fs := []) ry fun g => True.intro⟩
  refine ⟨a, _, _, _, _, .ref C, some dx, rfl, J, fun b o e => ?_, g2 a (by simp), ea, ⟨rfl, rfl⟩, rfl, rfl, ?_, rfl, I1.bare, raises_own T.exC T.tyC, q1 dx (I1.hok.fresh hd)⟩
  · by_cases hb : b = a
    · have e' : G.get? b = some o := e
      rw [hb, g2 a (by simp)] at e'
      cases e'
    · have e' : G.get? b = some o := e
      rw [g1 b (by simpa using hb)] at e'
      exact e'
  · rw [upd_ne (Ne.symm ne)]
    exact I1.hok.fresh ha
def cRaise (x f : Str) (ce : CEx) : CSx := fun C sc hc => ce C.xp sc hc fun d hc1 => C.xp ⟨x, [(f, d)]⟩ sc hc1
theorem cs_raise {l : Nat} {ce : CEx} (hr : RT l X W) (T : OwnX X.K C B newId initId bmB px f file) (S : Sup X.prog file) (hm : X.mg x = some (.ref C)) (ns : X.mg "super" = none) (h : CE X W e ce) (hl : 1 ≤ l := by decide) (hc : X.calm = true := by rfl) (hg : Gl X x := by rfl) (hdb : (x == ("__debug__" : Str)) = false := by decide)
    (he : starEach [e] X.env = (false, eval e X.env) :: starEach [] X.env := by rfl) (hpl : (backTo pos (starEach [] X.env)).any (·.1) = false := by rfl) : CS X W (.Raise (some (.Call (.Name x p) [e] [] pos)) none pos') (cRaise x f ce) :=
  ⟨ps_wk (ps_raise hc hr.t (pmk_own T S (hr.g.mono hl) hm ns (pa_cons h.p pa_nil he) hg hdb he hpl)) fun D σ H ⟨en, sc, hc, m, C', r, k, ff⟩ =>
    ⟨en, sc, hc, m, C'.xp, _, r, k, ff.xp, fun d hc1 px1 v H1 m1 x1 q1 => ⟨v, rfl, fun dx n => ff.xp _ sc hc1 px1 (.ref C) (some dx) σ _ m1 ((r.call x1).same (same_upd n)) ⟨hm, .inr ⟨dx, [(f, v)], rfl, upd_same, rfl, RepL.one (Rep.mono x1.mu (.same (same_upd n)) _ _ q1)⟩⟩⟩⟩⟩
end
/-! ### the state seen from here -/
def noOwn : List Sl → Bool
  | [] => true
  | .own _ :: _ => false
  | _ :: r => noOwn r
theorem noOwn_get : ∀ {sc : List Sl}, noOwn sc = true → ∀ (i : Nat) (ds : List D), sc[i]? ≠ some (Sl.own ds)
  | [], _, i, ds => by simp
  | .own _ :: _, h, _, _ => by cases h
  | .un :: r, h, 0, ds => by simp
  | .val _ :: r, h, 0, ds => by simp
  | .un :: r, h, i + 1, ds => by simpa using noOwn_get (sc := r) h i ds
  | .val _ :: r, h, i + 1, ds => by simpa using noOwn_get (sc := r) h i ds
section
variable {K : PySem.W.Frag} {en : En} {σ σ' : L2.St} {H H' : Hp} {sc sc' : List Sl} {hc hc' : CH} {m m' : Ms}
theorem Rs.here (r : Rs K en σ H sc hc m) (n : noOwn sc = true) : Rs K ⟨H, hc, m⟩ σ H sc hc m :=
  ⟨.refl r.toWd, r.slot, fun i ds e => absurd e (noOwn_get n i ds), fun i j ds es p e => absurd e (noOwn_get n i ds), r.len⟩
theorem Rs.reb (x : Ex K en H hc m) (r : Rs K ⟨H, hc, m⟩ σ' H' sc' hc' m') : Rs K en σ' H' sc' hc' m' := by
  refine ⟨x.trans r.toEx, r.slot, fun i ds e => ?_, r.sep, r.len⟩
  obtain ⟨p, vs, a1, a2, a3, a4⟩ := r.own i ds e
  refine ⟨p, vs, a1, a2, ?_, a4⟩
  cases z : en.H p with
  | none => rfl
  | some o => exact absurd a3 (x.live p o z)
theorem Rs.unset (r : Rs K en σ H sc hc m) (i : Nat) : Rs K en (σ.set i none) H (sc.set i .un) hc m := by
  have at_ : ∀ {j : Nat} {x : Sl}, (sc.set i .un)[j]? = some x → x ≠ .un → j ≠ i ∧ sc[j]? = some x := fun {j x} e nx => by
    by_cases h : j = i
    · subst h
      rw [List.getElem?_set] at e
      split at e
      · split at e
        · exact absurd (Option.some.inj e).symm nx
        · cases e
      · exact absurd rfl ‹_›
    · rw [List.getElem?_set_ne (Ne.symm h)] at e
      exact ⟨h, e⟩
  refine ⟨r.toEx, fun j d e => ?_, fun j ds e => ?_, fun j k ds es p e1 e2 e3 e4 => ?_, by rw [List.length_set, List.length_set]; exact r.len⟩
  · obtain ⟨h, e⟩ := at_ e (by simp)
    rw [List.getElem?_set_ne (Ne.symm h)]
    exact r.slot j d e
  · obtain ⟨h, e⟩ := at_ e (by simp)
    rw [List.getElem?_set_ne (Ne.symm h)]
    exact r.own j ds e
  · obtain ⟨h1, e1⟩ := at_ e1 (by simp)
    obtain ⟨h2, e2⟩ := at_ e2 (by simp)
    rw [List.getElem?_set_ne (Ne.symm h1)] at e3
    rw [List.getElem?_set_ne (Ne.symm h2)] at e4
    exact r.sep j k ds es p e1 e2 e3 e4
end
/-! ### try: .., except Z as n: .. -/
def unS (i : Nat) (C : CEnds) : CEnds := { nx := fun sc hc => C.nx (sc.set i .un) hc, rt := C.rt, bk := fun sc hc => C.bk (sc.set i .un) hc, ct := fun sc hc => C.ct (sc.set i .un) hc }
/-- ct: which classes the clause takes -/
def cTryAs (ct : List (Str × Bool)) (cb : CSx) (i : Nat) (cs : Addr → Str → Option Addr → CSx) : CSx := fun C sc hc => noOwn sc = true ∧ cb { C with xp := fun x sc1 hc1 => match ct.lookup x.cls with
  | some true => ∀ a dx, cs a x.cls dx (unS i C) (sc1.set i (.val (.exn a dx (x.fs.map (·.1)) (x.fs.map (·.2))))) hc1
  | some false => C.xp x sc1 hc1
  | none => False } sc hc
theorem RT.tr {X : Cx} {W W' : WX} {l : Nat} {pn : List (Addr × Obj)} {xe : Value → Shared → Prop} (r : RT l X W) (t : Takes (X.tr pn xe) W') (p : PassesOwn (model X.prog X.w) X.A X.env xe) : RT l (X.tr pn xe) W' := ⟨r.g, t, p⟩
section
variable {X : Cx} {W : WX} {body suite : List Stmt} {b₀ : Stmt} {z n : Str} {c : Value} {i l : Nat} {cb : CSx} {cs : Addr → Str → Option Addr → CSx} {ct : List (Str × Bool)} {np pos pos' : Pos}
theorem cs_try_as (hr : RT l X W) (hN : X.N.Nodup) (hc : Names X z c) (tb : ∀ y b, ct.lookup y = some b → ∀ cls, X.mg y = some cls → PySem.W.exmOne X.K cls c = some b)
    (hb : ∀ (W' : WX) (pn : List (Addr × Obj)) (xe : Value → Shared → Prop), RT l (X.tr pn xe) W' → CSs (X.tr pn xe) W' body cb)
    (hsu : ∀ (a : Addr) (oe : Obj) (y : Str) (cls : Value) (d : Option Addr) (pn : List (Addr × Obj)), X.mg y = some cls → Zc cls d oe → (∃ vs, oe.data = .fields vs) → CSs (X.suite a ((a, oe) :: pn)) W0 (b₀ :: suite) (cs a y d))
    (hi : X.N[i]? = some n := by rfl) (hln : X.env.kindOf n = some .local := by rfl) (hs : X.stack = X.env :: X.outer := by rfl) (hf : X.env.frame = some X.env.locals := by rfl) :
    CS X W (.Try body [.ExceptHandler (some (.Name z np)) (some n) (b₀ :: suite) pos'] [] [] pos) (cTryAs ct cb i cs) :=
  ⟨ps_wk (ps_try_as (tb := fun W' => LS X W' cb) (ts := fun a cls d D σ H => ∃ y, X.mg y = some cls ∧ LS X W0 (cs a y d) D σ H) hs hf hN hi hln hc hr.t (fun W' pn xe t p => pss_wk (hb W' pn xe (hr.tr t p)).p fun D σ H ⟨en, sc, hc, m, C, r, k, f⟩ => ⟨en, sc, hc, m, C, r, k, ⟨f.nx, f.bk, f.ct, f.rt, f.xp⟩⟩)
    (fun a oe cls d pn hz hv => ⟨fun pins s σ H D I ⟨y, hy, en, sc, hc, m, C, r, k, f⟩ => (hsu a oe y cls d pn hy hz hv).p.run pins s σ H D I ⟨en, sc, hc, m, C, r, k, ⟨f.nx, f.bk, f.ct, f.rt, f.xp⟩⟩⟩)) fun D σ H ⟨en, sc, hc0, m, C, r, ⟨no, k⟩, f⟩ => by
    refine ⟨⟨H, hc0, m⟩, sc, hc0, m, _, r.here no, k, ⟨fun sc' hc' q σ' H' m' r' s' => f.nx sc' hc' q σ' H' m' (r'.reb r.toEx) s', fun sc' hc' q σ' H' m' r' s' => f.bk sc' hc' q σ' H' m' (r'.reb r.toEx) s', fun sc' hc' q σ' H' m' r' s' => f.ct sc' hc' q σ' H' m' (r'.reb r.toEx) s', fun d hc' q v H' m' x' r' => f.rt d hc' q v H' m' (r.toEx.trans x') r', fun x sc1 hc1 px cls d σ1 H1 m1 r1 rx => ?_⟩⟩
    have st : Stp H m H1 m1 := r1.toEx.stp
    have r2 := r1.reb r.toEx
    have px : (match ct.lookup x.cls with
      | some true => ∀ a dx, cs a x.cls dx (unS i C) (sc1.set i (.val (.exn a dx (x.fs.map (·.1)) (x.fs.map (·.2))))) hc1
      | some false => C.xp x sc1 hc1
      | none => False) := px
    split at px
    · rename_i e
      refine ⟨true, tb _ _ e _ rx.1, fun _ a na => ⟨x.cls, rx.1, en, _, hc1, m1, unS i C, r2.put i (d := .exn a d (x.fs.map (·.1)) (x.fs.map (·.2))) (v := .ref a) ?_, px a d, ⟨fun sc' hc' q σ' H' m' r' s' => f.nx _ hc' q _ H' m' (r'.unset i) (st.trans s'), fun sc' hc' q σ' H' m' r' s' => f.bk _ hc' q _ H' m' (r'.unset i) (st.trans s'), fun sc' hc' q σ' H' m' r' s' => f.ct _ hc' q _ H' m' (r'.unset i) (st.trans s'), fun d hc' q v H' m' x' r' => f.rt d hc' q v H' m' x' r', fun _ _ _ z => z.elim⟩⟩, fun z => by cases z⟩
      unfold Rep
      rcases rx.2 with ⟨e1, e2⟩ | ⟨dx, fs, e1, e2, e3, e4⟩
      · exact ⟨rfl, [], .inl ⟨e2, by rw [e1]; rfl, rfl⟩, by rw [e1]; exact RepL.nil⟩
      · exact ⟨rfl, _, .inr ⟨dx, fs, e1, e2, e3, rfl⟩, e4⟩
    · rename_i e
      exact ⟨false, tb _ _ e _ rx.1, fun z => (by cases z), fun _ => f.xp x sc1 hc1 px cls d σ1 H1 m1 r2 rx⟩
    · exact px.elim⟩
end
/-! ### n.f, n the caught exception -/
def cXf (ys : List Str) (a : Addr) (y : Str) (d : Option Addr) (i : Nat) (f : Str) : CEx := fun _ sc hc P => ys.contains y = true ∧ match look sc i with
  | some (.exn a' d' ns xs) => a' = a ∧ d' = d ∧ (match (ns.zip xs).lookup f with
    | some v => P v hc
    | none => False)
  | _ => False
theorem repl_look {K : PySem.W.Frag} {H : Hp} {m : Ms} {f : Str} {dv : D} : ∀ {fs : List (Str × V)} {xs : List D}, RepL K H m xs (fs.map (·.2)) → ((fs.map (·.1)).zip xs).lookup f = some dv → ∃ v, fs.lookup f = some v ∧ Rep K H m dv v
  | [], xs, h, e => by simp at e
  | (g, v) :: fs, [], h, e => by simp at e
  | (g, v) :: fs, x :: xs, h, e => by
    unfold RepL at h
    obtain ⟨v', r, e1, q1, q2⟩ := h
    cases e1
    rw [List.map_cons, List.zip_cons_cons, List.lookup_cons] at e
    rw [List.lookup_cons]
    cases z : (f == g) with
    | true =>
      rw [z] at e
      cases e
      exact ⟨v, rfl, q1⟩
    | false =>
      rw [z] at e
      exact repl_look q2 e
theorem ce_xf {X : Cx} {a : Addr} {oe : Obj} {y n f : Str} {cls : Value} {d : Option Addr} {pn : List (Addr × Obj)} {np pos : Pos} {ys : List Str} {i : Nat} (tx : ∀ y, ys.contains y = true → ∃ C, X.mg y = some (.ref C) ∧ XfC X.K C ∧ PySem.W.findIn X.K (.ref C) f = some none)
    (hy : X.mg y = some cls) (hz : Zc cls d oe) (hv : ∃ vs, oe.data = .fields vs) (hi : X.N[i]? = some n := by rfl) (hvi : Vis X.env.scope n := by first | exact Or.inl rfl | exact Or.inr (Or.inl rfl) | exact Or.inr (Or.inr rfl)) (hd : (n == ("__debug__" : Str)) = false := by decide) (hcd : (n == ("__classdict__" : Str)) = false := by decide) :
    CE (X.suite a ((a, oe) :: pn)) W0 (.Attribute (.Name n np) f pos) (cXf ys a y d i f) := by
  refine ⟨⟨fun pins s σ H Q I ⟨en, sc, hc, m, E, P, r, ⟨hc1, k⟩, xo, fin⟩ => ?_⟩⟩
  obtain ⟨C, e1, T, hno⟩ := tx y hc1
  rw [hy] at e1
  cases e1
  refine (pe_xf T hno hz hv (pe_var (X := X.suite a ((a, oe) :: pn)) (pos := np) hi hvi hd hcd)).run pins s σ H Q I ?_
  split at k
  · rename_i a' d' ns xs el
    obtain ⟨rfl, rfl, k⟩ := k
    obtain ⟨v0, e1, q0⟩ := r.slot i _ (look_get el)
    unfold Rep at q0
    obtain ⟨rfl, vs, xf, q0⟩ := q0
    refine ⟨_, e1, rfl, rfl, ?_⟩
    split at k
    · rename_i dv ef
      rcases xf with ⟨_, rfl, _⟩ | ⟨dd, fs, e2, e3, rfl, rfl⟩
      · simp at ef
      · obtain ⟨v, e4, q4⟩ := repl_look q0 ef
        exact ⟨dd, fs, v, e2, e3, e4, fin _ hc k v H m (.refl r.toWd) q4⟩
    · exact k.elim
  · exact k.elim
end Mn

set_option maxHeartbeats 2000000
namespace Mn
open PySem PySem.Spec PyProof.Rows L2 NdefX
/-! ### own exceptions in the written part -/
/-- class x(..): def __init__(self, px): super().__init__(px); self.f = px; ve: over ValueError, else over LookupError -/
structure IniD where
  x : Str
  ve : Bool
  px : Str
  f : Str
  st : Stmt
def clsInit (s : Stmt) : Stmt := match s with
  | .ClassDef _ _ _ (b :: _) _ _ _ _ _ _ _ => b
  | _ => s
abbrev IniW : Type := Option (Str × Arguments × FuncBody × Scope × Addr × List Str × Addr)
def iniW (K : PySem.W.Frag) (x : Str) : IniW := match K.lookup (He.fAd K (x, some "__init__")) with
  | some ⟨_, _, .func fd, _⟩ => some (fd.name, fd.params, fd.body, fd.scope, fd.globals, fd.closure.map (·.1), fd.builtins)
  | _ => none
def IniD.val (d : IniD) : IniW := some ("__init__", defArgs d.st, .stmts (defBody d.st), defScope d.st, mainGlobals, ["__class__"], builtinsNs)
def bB (ve : Bool) : String := if ve then "ValueError" else "LookupError"
def bN (ve : Bool) : String := if ve then "ValueError.__new__" else "LookupError.__new__"
def bI (ve : Bool) : String := if ve then "ValueError.__init__" else "LookupError.__init__"
def bM (ve : Bool) : List Value := if ve then [.type "ValueError", .type "Exception", .type "BaseException", .type "object"] else [.type "LookupError", .type "Exception", .type "BaseException", .type "object"]
theorem bFB (ve : Bool) : PySem.ExcBaseFacts (bB ve) (bN ve) (bI ve) (bM ve) := by cases ve; exact PySem.F.excBase_LookupError; exact PySem.F.excBase_ValueError
theorem bSF (ve : Bool) : PySem.StoreFacts (bB ve) (bM ve) "object.__setattr__" "object" := by cases ve; exact PySem.F.store_LookupError; exact PySem.F.store_ValueError
theorem bKF (ve : Bool) : PySem.W.KxsFacts (bB ve) (bI ve) := by cases ve; exact PySem.W.kxs_LookupError; exact PySem.W.kxs_ValueError
def iniFB (K : PySem.W.Frag) (file : Str) (C : Addr) (o : Option Obj) : Bool := match o with
  | some ⟨_, _, .func fd, _⟩ => (match fd.code, fd.closure, fd.defaults with
    | .ref cda, [(_, cc)], .none => PySem.W.codeIn K (.ref cda) fd.qualname && ((match K.lookup cda with
      | some ⟨_, _, .fields vs, _⟩ => (match (vs[2]? : Option Value) with
        | some (Value.str fl _) => decide (fl = file)
        | _ => false)
      | _ => false) && (match K.lookup cc with
      | some ⟨_, _, .cell (some (.ref D)), _⟩ => decide (D = C)
      | _ => false))
    | _, _, _ => false)
  | _ => false
def ownB (K : PySem.W.Frag) (file : Str) (d : IniD) : Bool := (PySem.W.excInitIn K (He.ga K d.x) (bM d.ve) (bN d.ve) && PySem.W.excOver K (He.ga K d.x) (bM d.ve)) && ((PySem.W.hasDictIn K (He.ga K d.x) && (decide (PySem.W.findIn K (.ref (He.ga K d.x)) "__setattr__" = some (some (.builtin "object.__setattr__"))) &&
  decide (PySem.W.findIn K (.ref (He.ga K d.x)) d.f = some none))) && ((decide (PySem.W.ks_superIn K (He.ga K d.x) (He.ga K d.x) "__init__" = some (some (.builtin (bI d.ve)))) && (decide (PySem.W.subIn K (.ref (He.ga K d.x)) (.type (bB d.ve)) = some true) && decide (PySem.W.mroIn K (He.ga K d.x) (.ref (He.ga K d.x)) = some true))) &&
  ((decide (PySem.W.subIn K (.ref (He.ga K d.x)) (.type "BaseException") = some true) && (decide (PySem.W.typeIn K (.ref (He.ga K d.x)) = some (.type "type")) && PySem.W.keepIn K (.ref (He.ga K d.x)))) && ((decide (PySem.W.nsIn K cStatics "thirdparty.any" = some none) && xfB K (He.ga K d.x)) &&
  (decide (PySem.W.findIn K (.ref (He.ga K d.x)) "__init__" = some (some (.ref (He.fAd K (d.x, some "__init__"))))) && (decide (PySem.W.typeIn K (.ref (He.fAd K (d.x, some "__init__"))) = some (.type "function")) && iniFB K file (He.ga K d.x) (K.lookup (He.fAd K (d.x, some "__init__")))))))))
/-- what the text says of it, by looking -/
structure IniT (d : IniD) : Prop where
  body : IniBody d.px d.f (defBody d.st)
  bind : ∀ (q : Str) (kV doc pm : Value) (an : Option Addr) (cdv ct : Value) (cc : Addr) (a u : Value), bindArgs (PySem.W.ksFn "__init__" q (defArgs d.st) (defBody d.st) (defScope d.st) .none kV doc pm an cdv ct cc) ⟨[a, u], []⟩ = pure [(("self" : Str), a), (d.px, u)]
  head : ∃ ar : Arg, ((defArgs d.st).posonlyargs ++ (defArgs d.st).args).head? = some ar ∧ ar.arg = "self"
  dbg : (d.px == ("__debug__" : Str)) = false ∧ d.px ≠ "self"
  sup : (defScope d.st).names.lookup ("super" : Str) = some .globalImplicit
  cls : (defScope d.st).names.lookup ("__class__" : Str) = some .free
  slf : (defScope d.st).names.lookup ("self" : Str) = some .local
  par : (defScope d.st).names.lookup d.px = some .local
  kd : (defScope d.st).kind = .function
  co : (defScope d.st).isCoroutine = false
  gn : (defScope d.st).isGenerator = false
  nc : ∀ x ∈ (defScope d.st).names, x.2 ≠ .cell
/-- an own exception class by its name -/
def OwnC (K : PySem.W.Frag) (mg : Str → Option Value) (x px f file : Str) : Prop := ∃ (C : Addr) (B newId initId : String) (bmB : List Value), mg x = some (.ref C) ∧ OwnX K C B newId initId bmB px f file ∧ XfC K C
theorem ownC_of {K : PySem.W.Frag} {mg : Str → Option Value} {file : Str} {d : IniD} (h : ownB K file d = true) (e : iniW K d.x = d.val) (t : IniT d) (hm : mg d.x = some (.ref (He.ga K d.x))) : OwnC K mg d.x d.px d.f file := by
  unfold ownB at h
  simp only [Bool.and_eq_true] at h
  obtain ⟨⟨h1, h2⟩, ⟨h3, h4, h5⟩, ⟨h6, h7, h8⟩, ⟨h9, h10, h11⟩, ⟨h12, h13⟩, h14, h15, h16⟩ := h
  refine ⟨He.ga K d.x, _, _, _, _, hm, ⟨bFB d.ve, bSF d.ve, bKF d.ve, h1, h2, h3, of_decide_eq_true h4, of_decide_eq_true h5, of_decide_eq_true h6, of_decide_eq_true h7, of_decide_eq_true h8, of_decide_eq_true h9, of_decide_eq_true h10, h11, of_decide_eq_true h12, ?_⟩, xfB_ok h13⟩
  have e14 := of_decide_eq_true h14
  have e15 := of_decide_eq_true h15
  unfold iniW at e
  generalize He.fAd K (d.x, some "__init__") = fI at *
  cases q : K.lookup fI with
  | none =>
    rw [q] at e
    cases e
  | some o =>
    obtain ⟨oc, od, dt, osl⟩ := o
    rw [q] at e h16
    cases dt with
    | func fd =>
      obtain ⟨n1, n2, n3, n4, n5, n6, n7, n8, n9, n10, n11, n12, n13, n14, n15⟩ := fd
      have e2 : (some (n1, n3, n4, n5, n6, n7.map (·.1), n15) : IniW) = (some (("__init__" : Str), defArgs d.st, FuncBody.stmts (defBody d.st), defScope d.st, mainGlobals, [("__class__" : Str)], builtinsNs) : IniW) := e
      simp only [Option.some.injEq, Prod.mk.injEq] at e2
      obtain ⟨k1, k2, k3, k4, k5, k6, k7⟩ := e2
      subst k1 k2 k3 k4 k5 k7
      obtain ⟨cda, rfl⟩ : ∃ cda, n13 = .ref cda := by
        cases n13 <;> first | exact ⟨_, rfl⟩ | exact absurd h16 Bool.false_ne_true
      obtain ⟨nm, cc, rfl⟩ : ∃ nm cc, n7 = [(nm, cc)] := by
        rcases n7 with _ | ⟨⟨nm, cc⟩, _ | ⟨z, r⟩⟩
        · exact absurd h16 Bool.false_ne_true
        · exact ⟨nm, cc, rfl⟩
        · exact absurd h16 Bool.false_ne_true
      obtain rfl : n8 = .none := by
        cases n8 <;> first | rfl | exact absurd h16 Bool.false_ne_true
      have k6 : [nm] = [("__class__" : Str)] := k6
      cases k6
      have h17 : (PySem.W.codeIn K (.ref cda) n2 && ((match K.lookup cda with
        | some ⟨_, _, .fields vs, _⟩ => (match (vs[2]? : Option Value) with
          | some (Value.str fl _) => decide (fl = file)
          | _ => false)
        | _ => false) && (match K.lookup cc with
        | some ⟨_, _, .cell (some (.ref D)), _⟩ => decide (D = He.ga K d.x)
        | _ => false))) = true := h16
      · simp only [Bool.and_eq_true] at h17
        obtain ⟨c1, c2, c3⟩ := h17
        split at c2
        · rename_i a1 a2 vs a3 q2
          split at c2
          · rename_i fl tf q3
            have c2 := of_decide_eq_true c2
            subst c2
            split at c3
            · rename_i b1 b2 D b3 q4
              have c3 := of_decide_eq_true c3
              subst c3
              obtain ⟨ar, r1, r2⟩ := t.head
              exact ⟨fI, cc, cda, n2, _, _, _, .none, n9, n10, n11, n14, oc, a1, b1, n12, od, a2, b2, osl, a3, b3, vs, tf, ar, e14, e15, q, c1, q2, q3, q4, t.body, fun a u => t.bind n2 n9 n10 n11 n12 (.ref cda) n14 cc a u, r1, r2, t.dbg.1, t.dbg.2, t.sup, t.cls, t.slf, t.par, t.kd, t.co, t.gn, t.nc⟩
            · cases c3
          · cases c2
        · cases c2
    | _ => cases e
section
variable {X : Cx} {W : WX} {x px f file : Str} {e : Expr} {p pos pos' : Pos}
theorem cs_raiseC {l : Nat} {ce : CEx} (hr : RT l X W) (T : OwnC X.K X.mg x px f file) (S : Sup X.prog file) (ns : X.mg "super" = none) (h : CE X W e ce) (hl : 1 ≤ l := by decide) (hc : X.calm = true := by rfl) (hg : Gl X x := by rfl) (hdb : (x == ("__debug__" : Str)) = false := by decide)
    (he : starEach [e] X.env = (false, eval e X.env) :: starEach [] X.env := by rfl) (hpl : (backTo pos (starEach [] X.env)).any (·.1) = false := by rfl) : CS X W (.Raise (some (.Call (.Name x p) [e] [] pos)) none pos') (cRaise x f ce) := by
  obtain ⟨C, B, n1, n2, bm, hm, T, _⟩ := T
  exact cs_raise hr T S hm ns h hl hc hg hdb he hpl
end
theorem names_own {X : Cx} {x : Str} {C : Addr} (hm : X.mg x = some (.ref C)) (hg : Gl X x := by rfl) (hdb : (x == ("__debug__" : Str)) = false := by decide) : Names X x (.ref C) := ⟨hg, hdb, .inl hm⟩
/-- which classes another one takes -/
def ExmC (K : PySem.W.Frag) (mg : Str → Option Value) (y z : Str) (b : Bool) : Prop := ∃ C D, mg y = some (.ref C) ∧ mg z = some (.ref D) ∧ PySem.W.exmOne K (.ref C) (.ref D) = some b
theorem exm_nil {K : PySem.W.Frag} {mg : Str → Option Value} {c : Value} : ∀ (y : Str) (b : Bool), ([] : List (Str × Bool)).lookup y = some b → ∀ cls, mg y = some cls → PySem.W.exmOne K cls c = some b := fun y b e => by cases e
theorem exm_cons {K : PySem.W.Frag} {mg : Str → Option Value} {y z : Str} {b : Bool} {C : Addr} {ct : List (Str × Bool)} (h : ExmC K mg y z b) (hz : mg z = some (.ref C)) (r : ∀ (y : Str) (b : Bool), ct.lookup y = some b → ∀ cls, mg y = some cls → PySem.W.exmOne K cls (.ref C) = some b) :
    ∀ (y' : Str) (b' : Bool), ((y, b) :: ct).lookup y' = some b' → ∀ cls, mg y' = some cls → PySem.W.exmOne K cls (.ref C) = some b' := fun y' b' e cls hm => by
  obtain ⟨C1, D, e1, e2, e3⟩ := h
  rw [hz] at e2
  cases e2
  rw [List.lookup_cons] at e
  cases q : (y' == y) with
  | true =>
    rw [q] at e
    cases e
    rw [beq_iff_eq.mp q, e1] at hm
    cases hm
    exact e3
  | false =>
    rw [q] at e
    exact r y' b' e cls hm
theorem cs_try_asC {X : Cx} {W : WX} {body suite : List Stmt} {b₀ : Stmt} {z n : Str} {i l : Nat} {cb : CSx} {cs : Addr → Str → Option Addr → CSx} {ct : List (Str × Bool)} {np pos pos' : Pos} (hr : RT l X W) (hN : X.N.Nodup) (hc : ∃ C, X.mg z = some (.ref C))
    (tb : ∀ C, X.mg z = some (.ref C) → ∀ (y : Str) (b : Bool), ct.lookup y = some b → ∀ cls, X.mg y = some cls → PySem.W.exmOne X.K cls (.ref C) = some b)
    (hb : ∀ (W' : WX) (pn : List (Addr × Obj)) (xe : Value → Shared → Prop), RT l (X.tr pn xe) W' → CSs (X.tr pn xe) W' body cb)
    (hsu : ∀ (a : Addr) (oe : Obj) (y : Str) (cls : Value) (d : Option Addr) (pn : List (Addr × Obj)), X.mg y = some cls → Zc cls d oe → (∃ vs, oe.data = .fields vs) → CSs (X.suite a ((a, oe) :: pn)) W0 (b₀ :: suite) (cs a y d))
    (hg : Gl X z := by rfl) (hdb : (z == ("__debug__" : Str)) = false := by decide) (hi : X.N[i]? = some n := by rfl) (hln : X.env.kindOf n = some .local := by rfl) (hs : X.stack = X.env :: X.outer := by rfl) (hf : X.env.frame = some X.env.locals := by rfl) :
    CS X W (.Try body [.ExceptHandler (some (.Name z np)) (some n) (b₀ :: suite) pos'] [] [] pos) (cTryAs ct cb i cs) := by
  obtain ⟨C, h⟩ := hc
  exact cs_try_as hr hN (names_own h hg hdb) (tb C h) hb hsu hi hln hs hf
theorem e_TryAs {ct : List (Str × Bool)} {cb : CSx} {i : Nat} {cs : Addr → Str → Option Addr → CSx} {C : CEnds} {sc : List Sl} {hc : CH} : cTryAs ct cb i cs C sc hc = (noOwn sc = true ∧ cb { C with xp := fun x sc1 hc1 => match ct.lookup x.cls with
  | some true => ∀ a dx, cs a x.cls dx (unS i C) (sc1.set i (.val (.exn a dx (x.fs.map (·.1)) (x.fs.map (·.2))))) hc1
  | some false => C.xp x sc1 hc1
  | none => False } sc hc) := rfl
theorem e_Xf {ys : List Str} {a : Addr} {y : Str} {d : Option Addr} {i : Nat} {f : Str} {E : XP} {sc : List Sl} {hc : CH} {P : D → CH → Prop} : cXf ys a y d i f E sc hc P = (ys.contains y = true ∧ match look sc i with
  | some (.exn a' d' ns xs) => a' = a ∧ d' = d ∧ (match (ns.zip xs).lookup f with
    | some v => P v hc
    | none => False)
  | _ => False) := rfl
theorem own_at {K : PySem.W.Frag} {mg : Str → Option Value} {x px f file : Str} (T : OwnC K mg x px f file) : ∃ C, mg x = some (.ref C) := let ⟨C, _, _, _, _, h, _⟩ := T; ⟨C, h⟩
theorem tx_nil {K : PySem.W.Frag} {mg : Str → Option Value} {f : Str} : ∀ y : Str, ([] : List Str).contains y = true → ∃ C, mg y = some (.ref C) ∧ XfC K C ∧ PySem.W.findIn K (.ref C) f = some none := fun y e => by cases e
theorem tx_cons {K : PySem.W.Frag} {mg : Str → Option Value} {x px f file : Str} {ys : List Str} (T : OwnC K mg x px f file) (r : ∀ y : Str, ys.contains y = true → ∃ C, mg y = some (.ref C) ∧ XfC K C ∧ PySem.W.findIn K (.ref C) f = some none) :
    ∀ y : Str, (x :: ys).contains y = true → ∃ C, mg y = some (.ref C) ∧ XfC K C ∧ PySem.W.findIn K (.ref C) f = some none := fun y e => by
  rw [List.contains_cons, Bool.or_eq_true] at e
  rcases e with e | e
  · obtain ⟨C, _, _, _, _, h1, h2, h3⟩ := T
    rw [beq_iff_eq.mp e]
    exact ⟨C, h1, h3, h2.no⟩
  · exact r y e
theorem e_Raise {x f : Str} {ce : CEx} {C : CEnds} {sc : List Sl} {hc : CH} : cRaise x f ce C sc hc = ce C.xp sc hc fun d hc1 => C.xp ⟨x, [(f, d)]⟩ sc hc1 := rfl
/-! ### the hook -/
def obsXG (n : Nat) (fa : List He.Fa) (fn : List He.DefD) (tc : TupC) (lm : List Str) (file : Str) (ini : List IniD) (g : Addr → Option Obj) : ((He.AlD × Bool) × Bool) × (Bool × List IniW) :=
  (obsLG n fa fn tc lm g, (ini.all (ownB (He.frT g (He.asD g n ++ [sysModules, cStatics])) file), ini.map fun d => iniW (He.frT g (He.asD g n ++ [sysModules, cStatics])) d.x))
theorem map_val {K : PySem.W.Frag} : ∀ {ini : List IniD}, (ini.map fun d => iniW K d.x) = ini.map IniD.val → ∀ d ∈ ini, iniW K d.x = d.val
  | [], _, d, h => by cases h
  | a :: r, e, d, h => by
    injection e with e1 e2
    rcases List.mem_cons.mp h with rfl | h
    · exact e1
    · exact map_val e2 d h
def hookX (n : Nat) (fa : List He.Fa) (fn : List He.DefD) (tc : TupC) (lm : List Str) (file : Str) (ini : List IniD) : PySem.W.Hook where
  α := ((He.AlD × Bool) × Bool) × (Bool × List IniW)
  obs := fun s => obsXG n fa fn tc lm file ini s.heap.get?
  val := fun _ => (((He.valD fn, true), true), (true, ini.map IniD.val))
  says := fun _ h => ∃ K : PySem.W.Frag, K.In h ∧ SaysT fa fn tc K h ∧ (∀ x ∈ lm, lamN K x = true) ∧ ∀ d ∈ ini, ownB K file d = true ∧ iniW K d.x = d.val
  of := fun _ s e => by
    have e0 : obsLG n fa fn tc lm s.heap.get? = ((He.valD fn, true), true) := congrArg (fun z : ((He.AlD × Bool) × Bool) × (Bool × List IniW) => z.1) e
    have e1 : obsTG n fa fn tc s.heap.get? = (He.valD fn, true) := congrArg (fun z : (He.AlD × Bool) × Bool => z.1) e0
    have e2 : lm.all (lamN (He.frT s.heap.get? (He.asD s.heap.get? n ++ [sysModules, cStatics]))) = true := congrArg (fun z : (He.AlD × Bool) × Bool => z.2) e0
    have e3 : ini.all (ownB (He.frT s.heap.get? (He.asD s.heap.get? n ++ [sysModules, cStatics])) file) = true := congrArg (fun z : ((He.AlD × Bool) × Bool) × (Bool × List IniW) => z.2.1) e
    have e4 : (ini.map fun d => iniW (He.frT s.heap.get? (He.asD s.heap.get? n ++ [sysModules, cStatics])) d.x) = ini.map IniD.val := congrArg (fun z : ((He.AlD × Bool) × Bool) × (Bool × List IniW) => z.2.2) e
    exact ⟨He.frT s.heap.get? (He.asD s.heap.get? n ++ [sysModules, cStatics]), He.frT_in, saysT_of e1, fun x hx => List.all_eq_true.mp e2 x hx, fun d hd => ⟨List.all_eq_true.mp e3 d hd, map_val e4 d hd⟩⟩
  keeps := fun _ _ _ ⟨K, hK, ⟨c, d, t⟩, l⟩ k => ⟨K, PySem.W.Frag.In.keeps hK k, ⟨c, d, fun b hb => ⟨k _ _ (t b hb).1, (t b hb).2⟩⟩, l⟩
theorem obsXG_eq {n : Nat} {fa : List He.Fa} {fn : List He.DefD} {tc : TupC} {lm : List Str} {file : Str} {ini : List IniD} {g : Addr → Option Obj} {s : Shared} (h : ∀ a, g a = s.heap.get? a) : obsXG n fa fn tc lm file ini g = (hookX n fa fn tc lm file ini).obs s := by
  have e : g = s.heap.get? := funext h
  subst e
  rfl
end Mn

namespace Mn
open PySem PySem.Spec PyProof.Rows L2 NdefX
/-! ### defs as values -/
section
variable {X : Cx} {W : WX} {x g : Str} {p pos : Pos} {e : Expr} {es : List Expr} {c : CAx} {i l : Nat} {tbl : List (Str × Spc)}
/-- a def's name, read -/
def cFnV (x : Str) : CEx := fun _ _ hc P => P (.fn x) hc
theorem ce_fnv (hm : X.mg x = some (.ref (He.ga X.K x))) (hg : Gl X x := by rfl) (hdb : (x == ("__debug__" : Str)) = false := by decide) : CE X W (.Name x p) (cFnV x) :=
  ⟨⟨fun pins s σ H Q I ⟨en, sc, hc, m, E, P, r, k, xo, fin⟩ => ld_glob I hg hm ⟨.ref (He.ga X.K x), H, I, rfl, fin _ hc k _ H m (.refl r.toWd) (by unfold Rep; rfl)⟩ hdb⟩⟩
/-- g(..), g a name that holds one of some defs -/
def cCallF (tbl : List (Str × Spc)) (i : Nat) (c : CAx) : CEx := fun E sc hc P => match look sc i with
  | some (.fn x) => (match tbl.lookup x with
    | some sp => c E sc hc fun ds hc1 => sp ds hc1 P fun y hc2 => E y sc hc2
    | none => False)
  | _ => False
/-- the defs of such a table -/
def FtOk (X : Cx) (l : Nat) (tbl : List (Str × Spc)) : Prop := ∀ x sp, tbl.lookup x = some sp → X.mg x = some (.ref (He.ga X.K x)) ∧ ∃ (k : Nat) (ps : List Str), k ≤ l ∧ FnAt X.prog X.w X.K X.mg X.base k x ps sp
theorem ft_nil : FtOk X l [] := fun x sp e => by cases e
theorem ft_cons {k : Nat} {ps : List Str} {sp : Spc} (A : FnAt X.prog X.w X.K X.mg X.base k x ps sp) (hm : X.mg x = some (.ref (He.ga X.K x))) (r : FtOk X l tbl) (hl : k ≤ l := by decide) : FtOk X l ((x, sp) :: tbl) := fun y sp' e => by
  rw [List.lookup_cons] at e
  cases q : (y == x) with
  | true =>
    rw [q] at e
    cases e
    rw [beq_iff_eq.mp q]
    exact ⟨hm, k, ps, hl, A⟩
  | false =>
    rw [q] at e
    exact r y sp' e
theorem ce_callF (hr : RT l X W) (ht : FtOk X l tbl) (ha : CA X W (e :: es) c) (hN : X.N[i]? = some g := by rfl) (hv : Vis X.env.scope g := by first | exact Or.inl rfl | exact Or.inr (Or.inl rfl) | exact Or.inr (Or.inr rfl))
    (hd : (g == ("__debug__" : Str)) = false := by decide) (hcd : (g == ("__classdict__" : Str)) = false := by decide)
    (he : starEach (e :: es) X.env = (false, eval e X.env) :: starEach es X.env := by rfl) (hpl : (backTo pos (starEach es X.env)).any (·.1) = false := by rfl) : CE X W (.Call (.Name g p) (e :: es) [] pos) (cCallF tbl i c) := by
  refine ⟨⟨fun pins s σ H Q I ⟨en, sc, hc, m, E, P, r, kk, xo, fin⟩ => ?_⟩⟩
  unfold cCallF at kk
  split at kk
  case h_2 => exact kk.elim
  rename_i x el
  split at kk
  case h_2 => exact kk.elim
  rename_i sp et
  obtain ⟨v0, e1, q0⟩ := r.slot i _ (look_get el)
  unfold Rep at q0
  subst q0
  obtain ⟨hm, k, ps, hl, f, fd, F, hf, hk, hb, _⟩ := ht x sp et
  rw [hm] at hf
  cases hf
  refine wpAny_Call_Name_kw (thn ((pe_var (pos := p) hN hv hd hcd).run pins s σ H (fun v H1 => v = .ref (He.ga X.K x) ∧ H1 = H) I ⟨_, e1, rfl, rfl⟩) fun u s1 ⟨v, H1, I1, r1, q1⟩ => ?_)
  obtain ⟨rfl, rfl⟩ := q1
  cases r1
  refine PySem.W.callWith_K (h₀ := X.base) I1.ok.mod.kin hk (thn (ha.p.run pos pins s1 σ _ (fun vs H2 => toSp X.K X.mg sp (vs ++ []) H2 Q fun cls d H' => W cls d σ H') I1 ⟨en, sc, hc, m, E, _, r, kk, xo, fun ds hc1 hp vs H2 m2 x2 q2 => ?_⟩) fun us s2 ⟨vs, H2, I2, rr, q⟩ => ⟨I2.kIn, runX (F.mono hl) hr hb .nil I2 rr q⟩) he hpl
  show toSp X.K X.mg sp (vs ++ []) H2 Q _
  rw [List.append_nil]
  exact ⟨hc1, m2, ds, P, _, x2.toWd, q2, hp, fun d hc' pd v H' m' x q => fin d hc' pd v H' m' (x2.trans x) q, fun y hc' py cls dx H' m' x q => xo y sc hc' py cls dx σ H' m' (r.call (x2.trans x)) q⟩
end
theorem e_FnV {x : Str} {E : XP} {sc : List Sl} {hc : CH} {P : D → CH → Prop} : cFnV x E sc hc P = P (.fn x) hc := rfl
theorem e_CallF {tbl : List (Str × Spc)} {i : Nat} {c : CAx} {E : XP} {sc : List Sl} {hc : CH} {P : D → CH → Prop} : cCallF tbl i c E sc hc P = (match look sc i with
  | some (.fn x) => (match tbl.lookup x with
    | some sp => c E sc hc fun ds hc1 => sp ds hc1 P fun y hc2 => E y sc hc2
    | none => False)
  | _ => False) := rfl
theorem callF_at {tbl : List (Str × Spc)} {i : Nat} {c : CAx} {E : XP} {sc : List Sl} {hc : CH} {P : D → CH → Prop} {x : Str} (sp : Spc) (h1 : look sc i = some (.fn x)) (h2 : tbl.lookup x = some sp) (h : c E sc hc fun ds hc1 => sp ds hc1 P fun y hc2 => E y sc hc2) : cCallF tbl i c E sc hc P := by
  rw [e_CallF, h1]
  dsimp only
  rw [h2]
  exact h
/-! ### a def among some defs -/
theorem slot_fun_eq : Slot "function" "__eq__" "object.__eq__" :=
  .of (owner := "object") (n := "__eq__") (by rw [typeLookup_type, builtinLookup_eq_fast]; kernel_rfl) (by decide +kernel) (by decide +kernel) (by decide +kernel)
    (by first | exact .inl (by decide +kernel) | exact .inr (by decide +kernel)) (by rw [isSubtype_type]; kernel_rfl)
def FnO (h : Heap) (a : Addr) : Prop := ∃ o, h.get? a = some o ∧ o.cls = .type "function"
section
variable {prog : Program} {w : World} {A : Around} {E : Value → Shared → Prop} {s : Shared} {x y : Addr}
theorem tryEq_fn (hx : FnO s.heap x) (hy : FnO s.heap y) (hxy : x ≠ y) {Q : Option Value → Shared → Prop} (hq : Q none s) : wpAny (model prog w) A (tryCompare (.ref x) "__eq__" (.ref y)) Q E s := by
  obtain ⟨ox, ex, cx⟩ := hx
  obtain ⟨oy, ey, cy⟩ := hy
  have Tx : s.TypeIs (.ref x) "function" := ⟨_, ex, cx⟩
  simp only [tryCompare]
  refine wpAny_bind (wpAny_callSpecialIfBound?_slot (name := Str.ofString "__eq__") Tx slot_fun_eq (wpAny_call_entry slot_fun_eq Tx F.cmpEntry_eq (objEq_entry_other hxy ex ey (by rw [cx]; decide) ⟨_, rfl, ?_⟩) (F.cmpArgs_eq _ _)))
  exact wpAny_pure hq
theorem richEq_fn (hx : FnO s.heap x) (hy : FnO s.heap y) (hxy : x ≠ y) (hu : A.units < cLine) {Q : Value → Shared → Prop} (hq : Q (.bool false) s) : wpAny (model prog w) A (richCompare .Eq (.ref x) (.ref y)) Q E s := by
  obtain ⟨ox, ex, cx⟩ := id hx
  obtain ⟨oy, ey, cy⟩ := id hy
  have Tx : s.TypeIs (.ref x) "function" := ⟨_, ex, cx⟩
  have Ty : s.TypeIs (.ref y) "function" := ⟨_, ey, cy⟩
  simp only [richCompare, cmpInfo_Eq, oneThing_ref]
  refine wpAny_holding ?_
  refine wpAny_bind (wpAny_cRoomFor hu ?_)
  refine wpAny_bind (wpAny_typeOf Tx (wpAny_bind (wpAny_typeOf Ty ?_)))
  rw [if_neg (by decide)]
  refine wpAny_bind (wpAny_pure ?_)
  rw [if_neg (by decide)]
  refine wpAny_bind (tryEq_fn hx hy hxy ?_)
  refine wpAny_bind (tryEq_fn hy hx (Ne.symm hxy) ?_)
  repeat (first | with_reducible refine wpAny_isSame_ref_other hxy ex ey (by rw [cx]; decide) ?_ | wp_step)
  exact hq
theorem eqBool_fn (hx : FnO s.heap x) (hy : FnO s.heap y) (hu : A.units < cLine) {Q : Bool → Shared → Prop} (h : Q (decide (x = y)) s) : wpAny (model prog w) A (eqBool (.ref x) (.ref y)) Q E s := by
  by_cases e : x = y
  · subst e
    unfold eqBool
    refine wpAny_holding ?_
    rw [if_pos (by simp)]
    exact wpAny_bind (wpAny_rule (wpAny_pure (by simpa using h)))
  · exact GQ.eqBool_refG e (richEq_fn hx hy e hu ⟨false, rfl, by simpa [e] using h⟩)
theorem tuple_contains_fns {t : Addr} {items : Array Value} {ys : List Addr} {P : Fin → Shared → Prop} (ht : IsTup s.heap t items) (hi : items.toList = ys.map Value.ref) (hf : ∀ y ∈ ys, FnO s.heap y) (hx : FnO s.heap x) (hu : A.units < cLine)
    (h : P (.done (.ret (.bool (decide (x ∈ ys))))) s) : wpAny (model prog w) A (Builtin.«tuple.__contains__» ⟨[.ref t, .ref x], []⟩) P E s := by
  show wpAny _ _ (Builtin.Tuple.tupleItemsOf (.ref t) >>= _) _ _ s
  refine wpAny_bind (tupleItemsOf_ ht ?_)
  refine wpAny_bind (forIn_array_ _ (fun rest b s' => b.1 = none ∧ s' = s ∧ ∃ ms : List Addr, rest = ms.map Value.ref ∧ (∀ y ∈ ms, FnO s.heap y) ∧ P (.done (.ret (.bool (decide (x ∈ ms))))) s) _ ?_ ?_ items _ ⟨rfl, rfl, ys, hi, hf, h⟩)
  · rintro y rest b s' ⟨hb, rfl, ms, hm, hf, hP⟩
    cases ms with
    | nil => cases hm
    | cons n ms =>
      injection hm with h1 h2
      subst h1; subst h2
      refine wpAny_bind (eqBool_fn (hf _ List.mem_cons_self) hx hu ?_)
      by_cases e : n = x
      · subst e
        rw [decide_eq_true rfl]
        exact wpAny_bind (wpAny_pure (wpAny_pure (wpAny_pure (by simpa using hP))))
      · rw [decide_eq_false e]
        exact wpAny_pure ⟨rfl, rfl, ms, rfl, fun y hy => hf y (List.mem_cons_of_mem _ hy), by
          rw [show decide (x ∈ n :: ms) = decide (x ∈ ms) by simp [Ne.symm e]] at hP
          exact hP⟩
  · rintro ⟨b1, b2⟩ s' ⟨hb, rfl, ms, hm, hf, hP⟩
    cases ms with
    | cons n ms => cases hm
    | nil =>
      simp only at hb
      subst hb
      exact wpAny_pure (by simpa using hP)
theorem in_fns {t : Addr} {items : Array Value} {ys : List Addr} {Q : Value → Shared → Prop} (ht : IsTup s.heap t items) (hi : items.toList = ys.map Value.ref) (hf : ∀ y ∈ ys, FnO s.heap y) (hx : FnO s.heap x) (hu : A.units + 1 < cLine)
    (h : Q (.bool (decide (x ∈ ys))) s) : wpAny (model prog w) A (compareOp .In (.ref x) (.ref t)) Q E s := by
  show wpAny _ _ (do return .bool (← contains (.ref t) (.ref x))) Q E s
  refine wpAny_bind ?_
  unfold contains
  refine wpAny_holding ?_
  refine wpAny_bind (wpAny_specialOf ht.typeIs slot_tuple_contains.lookup ?_)
  rw [if_neg (by decide)]
  exact wpAny_bind (wpAny_callSpecialUnlessNone?_slot (name := Str.ofString "__contains__") ht.typeIs slot_tuple_contains
    (wpAny_call_entry slot_tuple_contains ht.typeIs entry_tuple_contains (tuple_contains_fns ht hi hf hx hu ⟨_, rfl, wpAny_truthy_bool (wpAny_pure h)⟩) (args_tuple_contains _ _)))
end
/-- these names are defs -/
def FvOk (K : PySem.W.Frag) (FV : List Str) : Prop := ∀ a ∈ FV, ∃ (od : Option Addr) (fd : FuncData) (sl : Array (Option Value)), K.lookup (He.ga K a) = some ⟨.type "function", od, .func fd, sl⟩ ∧ fd.name = a
def fvB (K : PySem.W.Frag) (a : Str) : Bool := match K.lookup (He.ga K a) with
  | some ⟨.type c, _, .func fd, _⟩ => decide (c = "function") && decide (fd.name = a)
  | _ => false
theorem fvB_ok {K : PySem.W.Frag} {FV : List Str} (h : FV.all (fvB K) = true) : FvOk K FV := fun a ha => by
  have e := List.all_eq_true.mp h a ha
  unfold fvB at e
  split at e
  · rename_i c od fd sl q
    rw [Bool.and_eq_true] at e
    have e1 := of_decide_eq_true e.1
    subst e1
    exact ⟨od, fd, sl, q, of_decide_eq_true e.2⟩
  · cases e
theorem FvOk.inj {K : PySem.W.Frag} {FV : List Str} (h : FvOk K FV) {a b : Str} (ha : a ∈ FV) (hb : b ∈ FV) (e : He.ga K a = He.ga K b) : a = b := by
  obtain ⟨o1, f1, s1, q1, n1⟩ := h a ha
  obtain ⟨o2, f2, s2, q2, n2⟩ := h b hb
  rw [e, q2] at q1
  cases q1
  exact n1.symm.trans n2
def inFD (FV : List Str) : O2 := fun x y _ P => match x, y with
  | .fn a, .tup ys => ∃ zs : List Str, ys = zs.map D.fn ∧ a ∈ FV ∧ (∀ z ∈ zs, z ∈ FV) ∧ P (.bl (decide (a ∈ zs)))
  | _, _ => False
theorem repl_fns {K : PySem.W.Frag} {H : Hp} {m : Ms} : ∀ {zs : List Str} {vs : List V}, RepL K H m (zs.map D.fn) vs → vs = zs.map fun z => V.ref (He.ga K z)
  | [], vs, h => by unfold RepL at h; exact h
  | z :: zs, vs, h => by
    rw [List.map_cons] at h
    unfold RepL at h
    obtain ⟨v, r, rfl, h1, h2⟩ := h
    unfold Rep at h1
    rw [h1, repl_fns h2]
    rfl
theorem vals_refs {f : Str → Addr} : ∀ {zs : List Str} {us : List Value}, Vals (zs.map fun z => V.ref (f z)) us → us = (zs.map f).map Value.ref
  | [], us, h => by cases h; rfl
  | z :: zs, us, h => by
    cases h with
    | cons h1 h2 =>
      cases h1
      rw [vals_refs h2]
      rfl
theorem op_inFD {X : Cx} {FV : List Str} {k : Nat} (hF : FvOk X.K FV) (g : RG k X.A) : OpR X (compareOp .In) (LV2 X.K (inFD FV)) := by
  intro pins s σ H x y v u Q I rx ry h
  obtain ⟨hc, m, dx, dy, P, w, h1, h2, f, fin⟩ := h
  have un := g.r.un
  unfold inFD at f
  split at f
  · rename_i a ys
    obtain ⟨zs, rfl, ha, hz, k⟩ := f
    unfold RepW Rep at h1 h2
    subst h1
    obtain ⟨p, vs, rfl, sq, rl⟩ := h2
    have ev := repl_fns rl
    subst ev
    obtain ⟨its, o, n, rv, e1, e2, e3⟩ := sqT_at I.hok I.kIn sq
    have eu := vals_refs rv
    subst eu
    cases rx
    cases ry
    have fo : ∀ z ∈ FV, FnO s.heap (He.ga X.K z) := fun z hz => by
      obtain ⟨od, fd, sl, q, _⟩ := hF z hz
      exact ⟨_, I.kIn _ _ q, rfl⟩
    refine in_fns (ys := zs.map (He.ga X.K)) ⟨o, e1, e2, n, e3⟩ (by simp) (fun y hy => ?_) (fo a ha) (by omega) ⟨.bl (decide (a ∈ zs)), H, I, ?_, fin _ k _ _ (.refl H) rep_blv⟩
    · obtain ⟨z, h3, rfl⟩ := List.mem_map.mp hy
      exact fo z (hz z h3)
    · show Value.bool _ = Value.bool _
      congr 1
      refine decide_eq_decide.mpr ⟨fun hm => ?_, fun hm => List.mem_map_of_mem hm⟩
      obtain ⟨z, h3, e⟩ := List.mem_map.mp hm
      rw [← hF.inj (hz z h3) ha e]
      exact h3
  · exact f.elim
theorem o_inF {FV : List Str} {a : Str} {ys : List D} {hc : CH} {P : D → Prop} : inFD FV (.fn a) (.tup ys) hc P = ∃ zs : List Str, ys = zs.map D.fn ∧ a ∈ FV ∧ (∀ z ∈ zs, z ∈ FV) ∧ P (.bl (decide (a ∈ zs))) := rfl
/-! ### the hook, with them -/
def obsYG (n : Nat) (fa : List He.Fa) (fn : List He.DefD) (tc : TupC) (lm : List Str) (file : Str) (ini : List IniD) (fv : List Str) (g : Addr → Option Obj) : (((He.AlD × Bool) × Bool) × (Bool × List IniW)) × Bool :=
  (obsXG n fa fn tc lm file ini g, fv.all (fvB (He.frT g (He.asD g n ++ [sysModules, cStatics]))))
def hookY (n : Nat) (fa : List He.Fa) (fn : List He.DefD) (tc : TupC) (lm : List Str) (file : Str) (ini : List IniD) (fv : List Str) : PySem.W.Hook where
  α := (((He.AlD × Bool) × Bool) × (Bool × List IniW)) × Bool
  obs := fun s => obsYG n fa fn tc lm file ini fv s.heap.get?
  val := fun _ => ((((He.valD fn, true), true), (true, ini.map IniD.val)), true)
  says := fun _ h => ∃ K : PySem.W.Frag, K.In h ∧ SaysT fa fn tc K h ∧ (∀ x ∈ lm, lamN K x = true) ∧ (∀ d ∈ ini, ownB K file d = true ∧ iniW K d.x = d.val) ∧ FvOk K fv
  of := fun _ s e => by
    have ex : obsXG n fa fn tc lm file ini s.heap.get? = (((He.valD fn, true), true), (true, ini.map IniD.val)) := congrArg (fun z : (((He.AlD × Bool) × Bool) × (Bool × List IniW)) × Bool => z.1) e
    have ey : fv.all (fvB (He.frT s.heap.get? (He.asD s.heap.get? n ++ [sysModules, cStatics]))) = true := congrArg (fun z : (((He.AlD × Bool) × Bool) × (Bool × List IniW)) × Bool => z.2) e
    have e0 : obsLG n fa fn tc lm s.heap.get? = ((He.valD fn, true), true) := congrArg (fun z : ((He.AlD × Bool) × Bool) × (Bool × List IniW) => z.1) ex
    have e1 : obsTG n fa fn tc s.heap.get? = (He.valD fn, true) := congrArg (fun z : (He.AlD × Bool) × Bool => z.1) e0
    have e2 : lm.all (lamN (He.frT s.heap.get? (He.asD s.heap.get? n ++ [sysModules, cStatics]))) = true := congrArg (fun z : (He.AlD × Bool) × Bool => z.2) e0
    have e3 : ini.all (ownB (He.frT s.heap.get? (He.asD s.heap.get? n ++ [sysModules, cStatics])) file) = true := congrArg (fun z : ((He.AlD × Bool) × Bool) × (Bool × List IniW) => z.2.1) ex
    have e4 : (ini.map fun d => iniW (He.frT s.heap.get? (He.asD s.heap.get? n ++ [sysModules, cStatics])) d.x) = ini.map IniD.val := congrArg (fun z : ((He.AlD × Bool) × Bool) × (Bool × List IniW) => z.2.2) ex
    exact ⟨He.frT s.heap.get? (He.asD s.heap.get? n ++ [sysModules, cStatics]), He.frT_in, saysT_of e1, fun x hx => List.all_eq_true.mp e2 x hx, fun d hd => ⟨List.all_eq_true.mp e3 d hd, map_val e4 d hd⟩, fvB_ok ey⟩
  keeps := fun _ _ _ ⟨K, hK, ⟨c, d, t⟩, l⟩ k => ⟨K, PySem.W.Frag.In.keeps hK k, ⟨c, d, fun b hb => ⟨k _ _ (t b hb).1, (t b hb).2⟩⟩, l⟩
theorem obsYG_eq {n : Nat} {fa : List He.Fa} {fn : List He.DefD} {tc : TupC} {lm : List Str} {file : Str} {ini : List IniD} {fv : List Str} {g : Addr → Option Obj} {s : Shared} (h : ∀ a, g a = s.heap.get? a) : obsYG n fa fn tc lm file ini fv g = (hookY n fa fn tc lm file ini fv).obs s := by
  have e : g = s.heap.get? := funext h
  subst e
  rfl
end Mn

namespace Mn
open PySem PySem.Spec PyProof.Rows L2
/-! ### x, y, .. = [], e, .. with x its own list -/
def cParN (i n : Nat) (ca : CAx) (gs : CGsx) : CSx := fun C sc hc => ca C.xp sc hc fun ds hc1 => (ds.length = n ∧ n + 1 ≤ sizeLine) ∧ gs C.xp ds (sc.set i (.own [])) hc1 fun sc2 hc2 => C.nx sc2 hc2
section
variable {X : Cx} {W : WX} {ca : CAx} {gs : CGsx} {pos : Pos}
theorem cs_parN {i n : Nat} {x : Str} {ts es : List Expr} {px pt p3 : Pos} {kt k2 : Nat} {p2 : Pos} (hc : X.calm = true) (hN : X.N.Nodup) (hb : CA X W es ca) (hg : CGs X W ts gs) (hi : X.N[i]? = some x := by rfl)
    (hx : Loc X.env.scope x := by first | exact Or.inl rfl | exact Or.inr rfl) (hf : X.fn x = true ∨ X.env.scope.names.lookup x = some .local := by first | exact .inl rfl | exact .inr rfl)
    (hn : (assignEach (.Name x px :: ts) X.env).length = n + 1 := by rfl) (hst : (assignEach (.Name x px :: ts) X.env).findIdx? (·.1) = none := by rfl)
    (hs : (assignEach (.Name x px :: ts) X.env).map (·.2) = assign (.Name x px) X.env :: (assignEach ts X.env).map (·.2) := by rfl)
    (h1 : starEach (.List [] p3 :: es) X.env = (false, eval (.List [] p3) X.env) :: starEach es X.env := by rfl)
    (h2 : swapsWithSole [.Tuple (.Name x px :: ts) kt pt] (.Tuple (.List [] p3 :: es) k2 p2) pos.line X.env = pure false := by rfl)
    (h3 : swappedStores [.Tuple (.Name x px :: ts) kt pt] (.Tuple (.List [] p3 :: es) k2 p2) X.env = pure none := by rfl)
    (h4 : (assignEach [.Tuple (.Name x px :: ts) kt pt] X.env).map (·.2) = [assign (.Tuple (.Name x px :: ts) kt pt) X.env] := by rfl) :
    CS X W (.Assign [.Tuple (.Name x px :: ts) kt pt] (.Tuple (.List [] p3 :: es) k2 p2) pos) (cParN i n ca gs) :=
  ⟨ps_wk (ps_asg (pe_tup (pa_cons (pe_lst pa_nil) hb.p h1)) (pg_tup hc (pgs_cons (pg_name hN hi hx hf) hg.p hs) hn hst) h2 h3 h4) fun D σ H ⟨en, sc, hc, m, C, r, k, f⟩ => by
    refine ⟨by show (0 : Nat) ≤ sizeLine; exact Nat.zero_le _, fun p n => ?_⟩
    obtain ⟨r1, s1, e0, hn, no⟩ := r.tmp (ds := []) n RepL.nil
    refine ⟨en, sc, hc, _, C.xp, _, r1, k, f.xp, fun ds hc2 pd vs H2 m2 x2 q2 => ?_⟩
    have r2 := r1.call x2
    have hc2n : hc2 p = none := by
      cases e : hc2 p with
      | none => rfl
      | some ds =>
        rcases x2.hgrow p ds e with z | z
        · exact (z hn).elim
        · rw [show (⟨upd H p (.lst []), hc, fun a => m a ∨ a = p⟩ : En).H p = some (.lst []) from upd_same] at z; cases z
    have hp2 := x2.keep p _ upd_same trivial hn
    refine ⟨by rw [List.length_cons, ← q2.length, pd.1.1]; exact pd.1.2, fun t nt => ⟨t, _, rfl, .inl (.inl upd_same), by rw [List.length_cons, ← q2.length, pd.1.1], .ref p, vs, rfl, ?_⟩⟩
    have x3 := Ex.same r2.toWd (same_upd (o := .tup (.ref p :: vs)) nt)
    have r3 := r2.call x3
    have tp : p ≠ t := fun z => by rw [← z, hp2] at nt; cases nt
    have r4 := r3.owned i (x2.hold p (.inr rfl) hn) e0 hc2n (by rw [upd_ne tp]; exact hp2) no
    exact ⟨en, _, hc2, m2, C.xp, ds, _, r4, RepL.mono r2.mu x3.stp _ _ q2, pd.2, f.xp, (f.nx.step (s1.trans (x2.stp.trans x3.stp)))⟩⟩
end
theorem e_ParN {i n : Nat} {ca : CAx} {gs : CGsx} {C : CEnds} {sc : List Sl} {hc : CH} : cParN i n ca gs C sc hc = ca C.xp sc hc fun ds hc1 => (ds.length = n ∧ n + 1 ≤ sizeLine) ∧ gs C.xp ds (sc.set i (.own [])) hc1 fun sc2 hc2 => C.nx sc2 hc2 := rfl
/-! ### range(i, j, c) upwards, of any ends and any step above nought -/
theorem longTurnC {P : Program} {w : World} {K : PySem.W.Frag} {tg : Expr} (b0 : Addr) (l c : Int) (n : Nat) : Turn P w K tg (Itc l c n) [b0] b0 (fun i g => IsLongIter g b0 (l + (i : Nat) * c) ((n : Int) - (i : Nat)) c) where
  mem := List.mem_singleton.mpr rfl
  obj := fun i g st b hb => by
    cases List.mem_singleton.mp hb
    refine ⟨_, st, fun v z => ?_⟩
    have z2 : Data.fields _ = Data.cell v := z
    cases z2
  keep := fun i g g' st k => k b0 (List.mem_singleton.mpr rfl) _ st
  item := fun X hP hw hK hc i pins s σ H E I hf st hg => by
    subst hP; subst hw; subst hK
    obtain ⟨f0, f1, f2, f3, f4, f5⟩ := hf b0 (List.mem_singleton.mpr rfl)
    refine (Walks.longrange (prog := X.prog) (w := X.w) (I.ok.hd hc) b0 l c n).item i s _ _ hg st fun v g tk hv st2 kk => ?_
    obtain ⟨t, rfl⟩ := hv
    have I2 : Inv X pins σ H { s with heap := g, toks := tk } := I.turned (fun b o hb e => kk b o (fun z => hb (List.mem_singleton.mp z)) e) f0 f1 f3 f4 f5
    exact ⟨_, rfl, go_of (s := { s with heap := g, toks := tk }) (n := "longrange_iterator") st2 rfl rfl (by decide) ⟨.int (l + (i : Nat) * c), H, I2, ⟨t, rfl⟩, ⟨rfl, rfl⟩, st2, fun b hb => (hf b hb).1⟩⟩
  done := fun X hP hw hK hc i pins s σ H E I hf st hg => by
    subst hP; subst hw; subst hK
    obtain ⟨f0, f1, f2, f3, f4, f5⟩ := hf b0 (List.mem_singleton.mpr rfl)
    refine wpAny_pyNext_long_end (I.ok.hd hc) st ?_ fun g eb => ⟨rfl, I.turned (t' := s.toks) (fun b o hb e => eb b o hb e) f0 f1 f3 f4 f5⟩
    have : n ≤ i := hg
    omega
  self := fun _ _ _ _ _ st h => wpAny_pyIter_longiter st h
theorem rangeC_nn {l u c : Int} (c0 : 0 < c) : 0 ≤ Builtin.Range.rangeSize l u c := by
  unfold Builtin.Range.rangeSize
  rw [if_pos c0]
  split
  · have := Int.ediv_nonneg (show 0 ≤ u - l - 1 by omega) (Int.le_of_lt c0)
    omega
  · exact Int.le_refl _
theorem rangeAnyC {pins : List (Addr × Obj)} {σ : L2.St} {H : Hp} {s : Shared} {R : It → Hp → Prop} {E : Value → Shared → Prop} {X : Cx} {tg : Expr} {l u c : Int} {t1 t2 t3 : Tok} {tk : Nat} (I : Inv X pins σ H s) (c0 : 0 < c)
    (q : R (Itc l c (Builtin.Range.rangeSize l u c).toNat) H) : wpAny (model X.prog X.w) X.A (pyIter (.ref s.heap.objs.size)) (PIE X pins σ tg R) E { s with heap := s.heap.push { cls := .type "range", data := .fields #[.int l t1, .int u t2, .int c t3] }, toks := tk } := by
  have I1 : Inv X pins σ H { s with heap := s.heap.push { cls := .type "range", data := .fields #[.int l t1, .int u t2, .int c t3] }, toks := tk } := I.kept fun b o e => Heap.get?_push_of_some _ e
  have e1 : l + ((0 : Nat) : Int) * c = l := by simp
  have e2 : (((Builtin.Range.rangeSize l u c).toNat : Nat) : Int) - ((0 : Nat) : Int) = Builtin.Range.rangeSize l u c := by
    have := rangeC_nn (l := l) (u := u) c0
    omega
  cases hs : Builtin.Range.small l u c with
  | true =>
    refine wpAny_pyIter_range (IsRange.new ..) hs ?_
    refine ⟨_, [_], _, _, H, rfl, I1.kept (t' := tk) fun b o e => Heap.get?_push_of_some _ e, turn_rangeC _ l c (Builtin.Range.rangeSize l u c).toNat, ?_, fun b hb => ?_, q⟩
    · show IsRangeIter _ _ (l + ((0 : Nat) : Int) * c) ((((Builtin.Range.rangeSize l u c).toNat : Nat) : Int) - ((0 : Nat) : Int)) c
      rw [e1, e2]
      exact Heap.get?_push_size _ rfl
    · cases List.mem_singleton.mp hb
      exact I1.fpOk (Nat.le_refl _) (I1.hok.fresh (Nat.le_refl _))
  | false =>
    refine wpAny_pyIter_longrange (IsRange.new ..) hs ?_
    refine ⟨_, [_], _, _, H, rfl, I1.kept (t' := tk) fun b o e => Heap.get?_push_of_some _ e, longTurnC _ l c (Builtin.Range.rangeSize l u c).toNat, ?_, fun b hb => ?_, q⟩
    · show IsLongIter _ _ (l + ((0 : Nat) : Int) * c) ((((Builtin.Range.rangeSize l u c).toNat : Nat) : Int) - ((0 : Nat) : Int)) c
      rw [e1, e2]
      exact Heap.get?_push_size _ rfl
    · cases List.mem_singleton.mp hb
      exact I1.fpOk (Nat.le_refl _) (I1.hok.fresh (Nat.le_refl _))
def rngS (lo c : Int) (n : Nat) : List D := (List.range n).map fun k : Nat => D.int (lo + (k : Int) * c)
theorem rngS_yields {K : PySem.W.Frag} {H : Hp} {m : Ms} (lo c : Int) (n : Nat) : Yields K (Itc lo c n) (rngS lo c n) H m := fun H2 m2 mo s2 i => by
  refine ⟨fun d e => ?_, fun hl => ?_⟩
  · unfold rngS at e
    rw [List.getElem?_map] at e
    by_cases lt : i < n
    · rw [List.getElem?_range lt] at e
      cases e
      refine ⟨lt, fun x H3 y => ?_⟩
      obtain ⟨e1, e2⟩ := y
      subst e1; subst e2
      exact ⟨.refl _, rep_int⟩
    · rw [List.getElem?_eq_none (by rw [List.length_range]; omega)] at e
      cases e
  · unfold rngS at hl
    rw [List.length_map, List.length_range] at hl
    exact hl
theorem rngS_at {lo c : Int} {n j : Nat} {d : D} (h : (rngS lo c n)[j]? = some d) : d = .int (lo + j * c) ∧ j < n := by
  unfold rngS at h
  rw [List.getElem?_map] at h
  by_cases lt : j < n
  · rw [List.getElem?_range lt] at h
    cases h
    exact ⟨rfl, lt⟩
  · rw [List.getElem?_eq_none (by rw [List.length_range]; omega)] at h
    cases h
theorem rngS_len {lo c : Int} {n : Nat} : (rngS lo c n).length = n := by
  unfold rngS
  rw [List.length_map, List.length_range]
def tR3 (ta : L2.TA) : TI := fun σ H R => ta σ H fun vs H1 => ∃ (i j c : Int), vs = [.int i, .int j, .int c] ∧ (0 < c ∧ Builtin.divisionGoesByPylong (j - i) c = false) ∧ R (Itc i c (Builtin.Range.rangeSize i j c).toNat) H1
def cR3P (ca : CAx) : CIx := fun E sc hc P => ca E sc hc fun ds hc1 => match ds with | [.int i, .int j, .int c] => DivOk (j - i) c ∧ P (rngS i c (Builtin.Range.rangeSize i j c).toNat) hc1 | _ => False
section
variable {X : Cx} {W : WX} {tg e : Expr} {ca : CAx} {pos : Pos}
theorem piR3 {a b c : Expr} {ta : L2.TA} {p pos : Pos} (hg : Gl X "range") (hm : X.mg "range" = none) (ha : PA X [a, b, c] ta)
    (hs : starEach [a, b, c] X.env = (false, eval a X.env) :: starEach [b, c] X.env := by rfl) (hpl : (backTo pos (starEach [b, c] X.env)).any (·.1) = false := by rfl) :
    PI X tg (.Call (.Name "range" p) [a, b, c] [] pos) (tR3 ta) := by
  refine ⟨fun pins s σ H R I h => ?_⟩
  refine Call_ (ld_blt I hg hm boot_range (PyProof.Rows.callWith_type1 (thn (ha.run pos pins s σ H _ I h) fun us s1 ⟨vs, H1, I1, r1, q1⟩ => ?_) hs hpl))
  obtain ⟨i, j, k, rfl, ⟨c0, c1⟩, q⟩ := q1
  obtain _ | ⟨r, rr⟩ := r1
  obtain _ | ⟨r', rr⟩ := rr
  obtain _ | ⟨r'', rr⟩ := rr
  cases rr
  obtain ⟨t, rfl⟩ := r
  obtain ⟨t', rfl⟩ := r'
  obtain ⟨t'', rfl⟩ := r''
  exact call_range_3 (by omega) (rangeAnyC I1 c0 q) (.inl c1)
theorem ci_r3p {e2 e3 : Expr} {p2 : Pos} (hm : X.mg "range" = none) (h : CA X W [e, e2, e3] ca) (hg : Gl X "range" := by rfl)
    (hs : starEach [e, e2, e3] X.env = (false, eval e X.env) :: starEach [e2, e3] X.env := by rfl) (hpl : (backTo pos (starEach [e2, e3] X.env)).any (·.1) = false := by rfl) :
    CI X W tg (.Call (.Name "range" p2) [e, e2, e3] [] pos) (cR3P ca) := ⟨pi_wk (piR3 hg hm h.p hs hpl) fun σ H R ⟨en, sc, hc, m, E, P, r, k, xo, fin⟩ =>
  ⟨en, sc, hc, m, E, _, r, k, xo, fun ds hc1 p vs H1 m1 x1 q => by
    split at p
    · unfold RepL at q
      obtain ⟨v, _, rfl, q1, q⟩ := q
      unfold RepL at q
      obtain ⟨v2, _, rfl, q2, q⟩ := q
      unfold RepL at q
      obtain ⟨v3, _, rfl, q3, q⟩ := q
      unfold RepL at q; unfold Rep at q1 q2 q3
      subst q; subst q1; subst q2; subst q3
      obtain ⟨dk, p⟩ := p
      exact ⟨_, _, _, rfl, ⟨dk.1, dk.2⟩, fin _ hc1 p _ H1 m1 x1 (rngS_yields _ _ _)⟩
    · exact p.elim⟩⟩
end
theorem e_R3P {ca : CAx} {E : XP} {sc : List Sl} {hc : CH} {P : List D → CH → Prop} : cR3P ca E sc hc P = ca E sc hc fun ds hc1 => match ds with | [.int i, .int j, .int c] => DivOk (j - i) c ∧ P (rngS i c (Builtin.Range.rangeSize i j c).toNat) hc1 | _ => False := rfl
end Mn

set_option maxHeartbeats 4000000
/-! ### isinstance of a caught error that has fields -/
namespace Mn
open PySem PySem.Spec PyProof.Rows PySem.Calls PySem.W
section
variable {prog : Program} {w : World} {A : Around} {E : Value → Shared → Prop} {s : Shared} {K : PySem.W.Frag} {x D : Addr} {ox : Obj} {od : Option Obj}
theorem findO {C : Addr} {name : Str} {a g : Value} (hc : (clsIn K C).isSome = true) (ha : findIn K (.ref C) name = some (some a)) (hg : specialIn K a "__get__" = some (some g)) (ht : takesIn K a = some true) : findObj K C od name = some (.bind g a) := by
  obtain ⟨cd, hc⟩ := Option.isSome_iff_exists.mp hc
  unfold findObj
  rw [hc, Option.bind_some, ha, Option.bind_some]
  simp [hg, ht]
theorem classO {Q : Option Value → Shared → Prop} (T : L2.ExcC K D) (X : K.In s.heap) (I : InstAt s.heap x ox D od) (h : Q (some (.ref D)) { s with toks := s.toks + 1 }) : wpAny (model prog w) A (getAttr? (.ref x) "__class__") Q E s := by
  have hf : findObj K D od "__class__" = some (.bind (.builtin "getset_descriptor.__get__") (.builtin "object.__class__")) := findO (by obtain ⟨cd, hc, _⟩ := any_some T.hd; rw [hc]; rfl) T.ha T.hn T.ht
  obtain ⟨hp, g, d, t, os⟩ := s
  have L0 := I.type (M := model prog w)
  have L1 := looks_findIn (M := model prog w) X T.hg
  have L2 := looks_findIn (M := model prog w) X T.hk
  have L3 := looks_find (M := model prog w) X I hf
  have sub : Looks (model prog w) hp (isInstance (.ref x) (.type "BaseException")) true := L0.andThen (looks_subIn X T.hs)
  have hx2 : (Value.builtin "BaseException.__getattribute__" == Value.builtin "object.__getattribute__") = false := by decide +kernel
  have hx1 : (onTheHeap (Value.ref D) && Value.builtin "BaseException.__getattribute__" == Value.builtin "object.__getattribute__") = false := by rw [hx2]; rfl
  unfold getAttr? getAttrBy? getAttrBy
  refine wpAny_bind (wpAny_mkText (wpAny_bind (wpAny_attempt (wpAny_holding (wpAny_bind (L0.at (wpAny_bind (L1.at ?_))))))))
  show wpAny _ _ (if (onTheHeap (Value.ref D) && Value.builtin "BaseException.__getattribute__" == Value.builtin "object.__getattribute__") = true then _ else _) _ _ _
  rw [hx1, if_neg Bool.false_ne_true]
  unfold getAttrByItsOwn hookBefore
  refine wpAny_bind ?_
  rw [if_pos (show onTheHeap (Value.ref D) = true from rfl)]
  refine L2.at ?_
  refine wpAny_bind (wpAny_attempt (wpAny_holding ?_))
  unfold callGetattribute
  rw [show (false && onTheHeap (Value.builtin "BaseException.__getattribute__")) = false from rfl, if_neg Bool.false_ne_true]
  unfold boundAndCalled
  rw [PySem.F.excAttr_ValueError.ga.bind (.ref x)]
  refine wpAny_bind (wpAny_pure ?_)
  show wpAny _ _ (call (.builtin "BaseException.__getattribute__") [.ref x, .str "__class__" t]) _ _ _
  refine wpAny_call (codeAny_call_builtin PySem.F.excAttr_ValueError.ga.plain PySem.F.entry_bexc_ga ?_)
  refine @check_slot (model prog w) _ _ ⟨hp, g, d, t + 1, os⟩ "BaseException.__getattribute__" "BaseException" "__getattribute__" (.ref x) [.str "__class__" t] [] _ (by decide +kernel) (by decide +kernel) sub (PySem.F.args_bexc_ga (.ref x) (.str "__class__" t)) ?_
  unfold Builtin.«object.__getattribute__»
  refine wpAny_bind (wpAny_of_eq (a := ((Value.ref x : Value), [Value.str "__class__" t])) (by first | rfl | (simp only [slotArgs]; rfl)) ?_)
  refine wpAny_bind (wpAny_pure (wpAny_bind (L0.at (wpAny_bind (L3.at ?_)))))
  show wpAny _ _ (holding [Value.builtin "object.__class__"] (call (.builtin "getset_descriptor.__get__") [.builtin "object.__class__", .ref x, .ref D]) >>= ret) _ _ _
  refine wpAny_bind (wpAny_holding (wpAny_call (class_get (s := ⟨hp, g, d, t + 1, os⟩) (ox := ox) (od := od) X I T.hm ?_)))
  refine wpAny_pure ?_
  show wpAny _ _ (handedOut (.ref D)) _ _ _
  rw [handedOut_of (v := .ref D) rfl]
  first
    | exact wpAny_pure (wpAny_pure h)
    | exact wpAny_pure h
    | exact wpAny_pure (wpAny_bind (wpAny_pure (wpAny_pure h)))
theorem kitO (T : L2.ExcC K D) : KitX K (.ref x) (.ref D) (fun h => InstAt h x ox D od) where
  ty := fun _ _ _ I => I.type
  it := fun _ _ X _ => by
    obtain ⟨cdD, hcD, _⟩ := any_some T.hd
    unfold clsIn at hcD
    split at hcD
    · rename_i c' d' cd' sl' ho
      intro A' Q' E' s' k q
      unfold isType loadHead
      exact wpAny_bind (wpAny_loadPart (k _ _ (X _ _ ho)) (wpAny_pure q))
    · cases hcD
  ne := fun h tp dd its n sl X htp => by
    obtain ⟨cdD, hcD, _⟩ := any_some T.hd
    refine Bool.eq_false_iff.mpr fun q => ?_
    have e : D = tp := Value.ref.inj (beq_iff_eq.mp q)
    subst e
    unfold clsIn at hcD
    split at hcD
    · rename_i c' d' cd' sl' ho
      have z := (X _ _ ho).symm.trans htp
      cases z
    · cases hcD
  ca := fun X I k => classO T X I k
end
end Mn
namespace Mn
open PySem PySem.Spec PyProof.Rows L2
/-- isinstance(e, c), e the exception that the suite holds, with or without fields -/
def rIsO (K : PySem.W.Frag) (D a : Addr) (d : Option Addr) : List V → Hp → VK → Prop := fun xs H Q => ∃ (c : V) (cv : Value) (b : Bool), xs = [.ref a, c] ∧ (∀ u, RelV c u → u = cv) ∧ (match d with | none => True | some dd => ∃ fs, H dd = some (.xd fs)) ∧ PySem.W.kitOne K (.ref D) cv = some b ∧ Q (.bl b) H
theorem call_isO {X : Cx} {a D : Addr} {oe : Obj} {d : Option Addr} {pn : List (Addr × Obj)} (C : ExcC X.K D) (hz : Zc (.ref D) d oe) (hf : ∃ vs, oe.data = .fields vs) : CallR (X.suite a ((a, oe) :: pn)) (.builtin "isinstance") (rIsO X.K D a d) := by
  intro pins s σ H xs us Q I r h
  obtain ⟨c, cv, b, rfl, hcv, hd, e, q⟩ := h
  cases r with
  | cons rx rr =>
    cases rr with
    | cons rt rr =>
      cases rr
      cases rx
      have ec := hcv _ rt
      subst ec
      obtain ⟨hget, _⟩ := I.pin (a, oe) (List.mem_append.mpr (.inl List.mem_cons_self))
      obtain ⟨vs, hv⟩ := hf
      have J : ∃ od, PySem.W.InstAt s.heap a oe D od := by
        cases d with
        | none =>
          refine ⟨none, hget, hz.1, by unfold PySem.W.notCls; rw [hv] <;> rfl, by rw [hz.2]; trivial⟩
        | some dd =>
          obtain ⟨fs, ea⟩ := hd
          have hx : ObjOk X.prog X.w H s.heap dd (.xd fs) := I.hok dd _ ea
          obtain ⟨mA, hns, hr⟩ := hx
          obtain ⟨od, ho, hl⟩ := lookIn_ns hns
          exact ⟨some od, hget, hz.1, by unfold PySem.W.notCls; rw [hv] <;> rfl, by rw [hz.2]; exact ho⟩
      obtain ⟨od, J⟩ := J
      exact PySem.W.kia_one (kitO (ox := oe) (od := od) C) I.kIn J e (fun z => nomatch z) fun tk => ⟨.bl b, H, I.kept (t' := tk) fun _ _ z => z, rfl, q⟩
/-- what an own exception class and another class are to one another -/
def IsK (K : PySem.W.Frag) (mg : Str → Option Value) (y : Str) (c : Value) (b : Bool) : Prop := ∃ D, mg y = some (.ref D) ∧ ExcC K D ∧ PySem.W.kitOne K (.ref D) c = some b
def cIsX (tb : List (Str × Bool)) (a : Addr) (y : Str) (d : Option Addr) (i : Nat) : CEx := fun _ sc hc P => match tb.lookup y with
  | some b => (match look sc i with
    | some (.exn a' d' _ _) => (a' = a ∧ d' = d) ∧ P (.bl b) hc
    | _ => False)
  | none => False
section
variable {X : Cx} {a : Addr} {oe : Obj} {y n z : Str} {cls : Value} {d : Option Addr} {pn : List (Addr × Obj)} {np p1 zp pos : Pos} {i : Nat} {tb : List (Str × Bool)}
theorem isx_go {c : V} {cv : Value} {e2 : Expr} (tx : ∀ y b, tb.lookup y = some b → IsK X.K X.mg y cv b) (hcv : ∀ u, RelV c u → u = cv) (h2 : PE (X.suite a ((a, oe) :: pn)) e2 (fun σ H Q => Q c H)) (hm : X.mg "isinstance" = none) (hy : X.mg y = some cls) (hz : Zc cls d oe) (hv : ∃ vs, oe.data = .fields vs) (hg : Gl X "isinstance" := by rfl)
    (hi : X.N[i]? = some n := by rfl) (hvi : Vis X.env.scope n := by first | exact Or.inl rfl | exact Or.inr (Or.inl rfl) | exact Or.inr (Or.inr rfl)) (hd : (n == ("__debug__" : Str)) = false := by decide) (hcd : (n == ("__classdict__" : Str)) = false := by decide)
    (he : starEach [.Name n np, e2] X.env = (false, eval (.Name n np) X.env) :: starEach [e2] X.env := by rfl) (he2 : starEach [e2] X.env = (false, eval e2 X.env) :: starEach [] X.env := by rfl) (hpl : (backTo pos (starEach [e2] X.env)).any (·.1) = false := by rfl) :
    CE (X.suite a ((a, oe) :: pn)) W0 (.Call (.Name "isinstance" p1) [.Name n np, e2] [] pos) (cIsX tb a y d i) := by
  refine ⟨⟨fun pins s σ H Q I ⟨en, sc, hc, m, E, P, r, k, xo, fin⟩ => ?_⟩⟩
  unfold cIsX at k
  split at k
  · rename_i b hb
    split at k
    · rename_i a' d' ns xs el
      obtain ⟨⟨rfl, rfl⟩, k⟩ := k
      obtain ⟨D, e1, T, e4⟩ := tx y b hb
      rw [hy] at e1
      cases e1
      obtain ⟨v0, e5, q0⟩ := r.slot i _ (look_get el)
      unfold Rep at q0
      obtain ⟨rfl, vs, xf, q0⟩ := q0
      refine (pe_callB (call_isO (pn := pn) T hz hv) hg hm (by decide +kernel) (pa_cons (pe_var (X := X.suite a' ((a', oe) :: pn)) (pos := np) hi hvi hd hcd) (pa_cons h2 pa_nil he2) he) (by decide) (by decide) he hpl).run pins s σ H Q I ?_
      refine ⟨_, e5, c, cv, b, rfl, hcv, ?_, e4, fin _ hc k _ H m (.refl r.toWd) rep_bl⟩
      rcases xf with ⟨rfl, _, _⟩ | ⟨dd, fs, rfl, e3, _, _⟩
      · trivial
      · exact ⟨fs, e3⟩
    · exact k.elim
  · exact k.elim
theorem ce_isK (hzc : ∃ C, X.mg z = some (.ref C)) (tx : ∀ C, X.mg z = some (.ref C) → ∀ y b, tb.lookup y = some b → IsK X.K X.mg y (.ref C) b) (hm : X.mg "isinstance" = none) (hy : X.mg y = some cls) (hz : Zc cls d oe) (hv : ∃ vs, oe.data = .fields vs) (hg : Gl X "isinstance" := by rfl) (hgz : Gl X z := by rfl) (hdz : (z == ("__debug__" : Str)) = false := by decide)
    (hi : X.N[i]? = some n := by rfl) (hvi : Vis X.env.scope n := by first | exact Or.inl rfl | exact Or.inr (Or.inl rfl) | exact Or.inr (Or.inr rfl)) (hd : (n == ("__debug__" : Str)) = false := by decide) (hcd : (n == ("__classdict__" : Str)) = false := by decide)
    (he : starEach [.Name n np, .Name z zp] X.env = (false, eval (.Name n np) X.env) :: starEach [.Name z zp] X.env := by rfl) (he2 : starEach [.Name z zp] X.env = (false, eval (.Name z zp) X.env) :: starEach [] X.env := by rfl) (hpl : (backTo pos (starEach [.Name z zp] X.env)).any (·.1) = false := by rfl) :
    CE (X.suite a ((a, oe) :: pn)) W0 (.Call (.Name "isinstance" p1) [.Name n np, .Name z zp] [] pos) (cIsX tb a y d i) := by
  obtain ⟨C, hC⟩ := hzc
  exact isx_go (c := .ref C) (tx C hC) (fun u r => r) ⟨fun pins s σ H Q I h => ld_glob I hgz hC ⟨.ref C, H, I, rfl, h⟩ hdz⟩ hm hy hz hv hg hi hvi hd hcd he he2 hpl
theorem ce_isT {T : String} (hm2 : X.mg z = none) (tx : ∀ y b, tb.lookup y = some b → IsK X.K X.mg y (.type T) b) (hm : X.mg "isinstance" = none) (hy : X.mg y = some cls) (hz : Zc cls d oe) (hv : ∃ vs, oe.data = .fields vs) (hv2 : bootBuiltins z = some (.type T) := by decide +kernel) (hg : Gl X "isinstance" := by rfl) (hgz : Gl X z := by rfl) (hn2 : z ≠ "__name__" := by decide) (hdz : (z == ("__debug__" : Str)) = false := by decide)
    (hi : X.N[i]? = some n := by rfl) (hvi : Vis X.env.scope n := by first | exact Or.inl rfl | exact Or.inr (Or.inl rfl) | exact Or.inr (Or.inr rfl)) (hd : (n == ("__debug__" : Str)) = false := by decide) (hcd : (n == ("__classdict__" : Str)) = false := by decide)
    (he : starEach [.Name n np, .Name z zp] X.env = (false, eval (.Name n np) X.env) :: starEach [.Name z zp] X.env := by rfl) (he2 : starEach [.Name z zp] X.env = (false, eval (.Name z zp) X.env) :: starEach [] X.env := by rfl) (hpl : (backTo pos (starEach [.Name z zp] X.env)).any (·.1) = false := by rfl) :
    CE (X.suite a ((a, oe) :: pn)) W0 (.Call (.Name "isinstance" p1) [.Name n np, .Name z zp] [] pos) (cIsX tb a y d i) :=
  isx_go (c := .ty T) (cv := .type T) tx (fun u r => r) (pe_bltn (v := .ty T) hgz hm2 hv2 rfl hn2 hdz) hm hy hz hv hg hi hvi hd hcd he he2 hpl
end
theorem e_IsX {tb : List (Str × Bool)} {a : Addr} {y : Str} {d : Option Addr} {i : Nat} {E : XP} {sc : List Sl} {hc : CH} {P : D → CH → Prop} : cIsX tb a y d i E sc hc P = (match tb.lookup y with
  | some b => (match look sc i with
    | some (.exn a' d' _ _) => (a' = a ∧ d' = d) ∧ P (.bl b) hc
    | _ => False)
  | none => False) := rfl
theorem isk_nil {K : PySem.W.Frag} {mg : Str → Option Value} {c : Value} : ∀ (y : Str) (b : Bool), ([] : List (Str × Bool)).lookup y = some b → IsK K mg y c b := fun y b e => by cases e
theorem isk_cons {K : PySem.W.Frag} {mg : Str → Option Value} {y : Str} {c : Value} {b : Bool} {tb : List (Str × Bool)} (h : IsK K mg y c b) (r : ∀ (y : Str) (b : Bool), tb.lookup y = some b → IsK K mg y c b) :
    ∀ (y' : Str) (b' : Bool), ((y, b) :: tb).lookup y' = some b' → IsK K mg y' c b' := fun y' b' e => by
  rw [List.lookup_cons] at e
  cases q : (y' == y) with
  | true =>
    rw [q] at e
    cases e
    rw [beq_iff_eq.mp q]
    exact h
  | false =>
    rw [q] at e
    exact r y' b' e
/-! ### the hook, with such facts -/
inductive IsF where
  | own (y z : Str) (b : Bool)
  | blt (y : Str) (T : String) (b : Bool)
def IsF.y : IsF → Str
  | .own y _ _ => y
  | .blt y _ _ => y
def IsF.c (K : PySem.W.Frag) : IsF → Value
  | .own _ z _ => .ref (He.ga K z)
  | .blt _ T _ => .type T
def IsF.b : IsF → Bool
  | .own _ _ b => b
  | .blt _ _ b => b
def excB (K : PySem.W.Frag) (D : Addr) : Bool := xfB K D && (decide (PySem.W.findIn K (.ref D) "__class__" = some (some (.builtin "object.__class__"))) && (decide (PySem.W.specialIn K (.builtin "object.__class__") "__get__" = some (some (.builtin "getset_descriptor.__get__"))) &&
  (decide (PySem.W.takesIn K (.builtin "object.__class__") = some true) && decide (PySem.W.mroIn K D (.type "object") = some true))))
theorem excB_ok {K : PySem.W.Frag} {D : Addr} (h : excB K D = true) : ExcC K D := by
  unfold excB at h
  simp only [Bool.and_eq_true] at h
  obtain ⟨h1, h2, h3, h4, h5⟩ := h
  have x := xfB_ok h1
  exact ⟨x.ga, x.gg, x.exC, x.hdC, of_decide_eq_true h2, of_decide_eq_true h3, of_decide_eq_true h4, of_decide_eq_true h5⟩
def isB (K : PySem.W.Frag) (f : IsF) : Bool := excB K (He.ga K f.y) && decide (PySem.W.kitOne K (.ref (He.ga K f.y)) (f.c K) = some f.b)
theorem isK_of {K : PySem.W.Frag} {mg : Str → Option Value} {f : IsF} (h : isB K f = true) (hm : mg f.y = some (.ref (He.ga K f.y))) : IsK K mg f.y (f.c K) f.b := by
  unfold isB at h
  rw [Bool.and_eq_true] at h
  exact ⟨_, hm, excB_ok h.1, of_decide_eq_true h.2⟩
/-- by the other class's name -/
def IsN (K : PySem.W.Frag) (mg : Str → Option Value) (y z : Str) (b : Bool) : Prop := ∃ C, mg z = some (.ref C) ∧ IsK K mg y (.ref C) b
theorem IsN.at {K : PySem.W.Frag} {mg : Str → Option Value} {y z : Str} {b : Bool} {C : Addr} (h : IsN K mg y z b) (hz : mg z = some (.ref C)) : IsK K mg y (.ref C) b := by
  obtain ⟨D, e, k⟩ := h
  rw [hz] at e
  cases e
  exact k
theorem isN_of {K : PySem.W.Frag} {mg : Str → Option Value} {y z : Str} {b : Bool} (h : isB K (.own y z b) = true) (hm : mg y = some (.ref (He.ga K y))) (hz : mg z = some (.ref (He.ga K z))) : IsN K mg y z b := ⟨_, hz, isK_of (f := .own y z b) h hm⟩
def obsZG (n : Nat) (fa : List He.Fa) (fn : List He.DefD) (tc : TupC) (lm : List Str) (file : Str) (ini : List IniD) (fv : List Str) (isl : List IsF) (g : Addr → Option Obj) : ((((He.AlD × Bool) × Bool) × (Bool × List IniW)) × Bool) × Bool :=
  (obsYG n fa fn tc lm file ini fv g, isl.all (isB (He.frT g (He.asD g n ++ [sysModules, cStatics]))))
def hookZ (n : Nat) (fa : List He.Fa) (fn : List He.DefD) (tc : TupC) (lm : List Str) (file : Str) (ini : List IniD) (fv : List Str) (isl : List IsF) : PySem.W.Hook where
  α := ((((He.AlD × Bool) × Bool) × (Bool × List IniW)) × Bool) × Bool
  obs := fun s => obsZG n fa fn tc lm file ini fv isl s.heap.get?
  val := fun _ => (((((He.valD fn, true), true), (true, ini.map IniD.val)), true), true)
  says := fun _ h => ∃ K : PySem.W.Frag, K.In h ∧ SaysT fa fn tc K h ∧ (∀ x ∈ lm, lamN K x = true) ∧ (∀ d ∈ ini, ownB K file d = true ∧ iniW K d.x = d.val) ∧ FvOk K fv ∧ ∀ f ∈ isl, isB K f = true
  of := fun _ s e0 => by
    have e : obsYG n fa fn tc lm file ini fv s.heap.get? = ((((He.valD fn, true), true), (true, ini.map IniD.val)), true) := congrArg (fun z : ((((He.AlD × Bool) × Bool) × (Bool × List IniW)) × Bool) × Bool => z.1) e0
    have ez : isl.all (isB (He.frT s.heap.get? (He.asD s.heap.get? n ++ [sysModules, cStatics]))) = true := congrArg (fun z : ((((He.AlD × Bool) × Bool) × (Bool × List IniW)) × Bool) × Bool => z.2) e0
    have ex : obsXG n fa fn tc lm file ini s.heap.get? = (((He.valD fn, true), true), (true, ini.map IniD.val)) := congrArg (fun z : (((He.AlD × Bool) × Bool) × (Bool × List IniW)) × Bool => z.1) e
    have ey : fv.all (fvB (He.frT s.heap.get? (He.asD s.heap.get? n ++ [sysModules, cStatics]))) = true := congrArg (fun z : (((He.AlD × Bool) × Bool) × (Bool × List IniW)) × Bool => z.2) e
    have e0 : obsLG n fa fn tc lm s.heap.get? = ((He.valD fn, true), true) := congrArg (fun z : ((He.AlD × Bool) × Bool) × (Bool × List IniW) => z.1) ex
    have e1 : obsTG n fa fn tc s.heap.get? = (He.valD fn, true) := congrArg (fun z : (He.AlD × Bool) × Bool => z.1) e0
    have e2 : lm.all (lamN (He.frT s.heap.get? (He.asD s.heap.get? n ++ [sysModules, cStatics]))) = true := congrArg (fun z : (He.AlD × Bool) × Bool => z.2) e0
    have e3 : ini.all (ownB (He.frT s.heap.get? (He.asD s.heap.get? n ++ [sysModules, cStatics])) file) = true := congrArg (fun z : ((He.AlD × Bool) × Bool) × (Bool × List IniW) => z.2.1) ex
    have e4 : (ini.map fun d => iniW (He.frT s.heap.get? (He.asD s.heap.get? n ++ [sysModules, cStatics])) d.x) = ini.map IniD.val := congrArg (fun z : ((He.AlD × Bool) × Bool) × (Bool × List IniW) => z.2.2) ex
    exact ⟨He.frT s.heap.get? (He.asD s.heap.get? n ++ [sysModules, cStatics]), He.frT_in, saysT_of e1, fun x hx => List.all_eq_true.mp e2 x hx, fun d hd => ⟨List.all_eq_true.mp e3 d hd, map_val e4 d hd⟩, fvB_ok ey, fun f hf => List.all_eq_true.mp ez f hf⟩
  keeps := fun _ _ _ ⟨K, hK, ⟨c, d, t⟩, l⟩ k => ⟨K, PySem.W.Frag.In.keeps hK k, ⟨c, d, fun b hb => ⟨k _ _ (t b hb).1, (t b hb).2⟩⟩, l⟩
theorem obsZG_eq {n : Nat} {fa : List He.Fa} {fn : List He.DefD} {tc : TupC} {lm : List Str} {file : Str} {ini : List IniD} {fv : List Str} {isl : List IsF} {g : Addr → Option Obj} {s : Shared} (h : ∀ a, g a = s.heap.get? a) : obsZG n fa fn tc lm file ini fv isl g = (hookZ n fa fn tc lm file ini fv isl).obs s := by
  have e : g = s.heap.get? := funext h
  subst e
  rfl
end Mn

/-! ### sorted([t, u]), tuples of ints -/
namespace Mn
open PySem PySem.Spec PyProof.Rows
def lexL : List Int → List Int → Bool
  | [], [] => false
  | [], _ :: _ => true
  | _ :: _, [] => false
  | a :: r, b :: q => if a = b then lexL r q else decide (a < b)
theorem lexL_asym : ∀ x y : List Int, lexL x y = true → lexL y x = false
  | [], [], _ => rfl
  | [], _ :: _, _ => rfl
  | _ :: _, [], h => by cases h
  | a :: r, b :: q, h => by
    unfold lexL at h ⊢
    by_cases e : a = b
    · rw [if_pos e] at h
      rw [if_pos e.symm]
      exact lexL_asym r q h
    · rw [if_neg e] at h
      rw [if_neg (fun z => e z.symm)]
      have := of_decide_eq_true h
      exact decide_eq_false (by omega)
theorem lexL_tr : ∀ x y z : List Int, lexL y x = false → lexL z y = false → lexL z x = false
  | [], y, [], _, _ => rfl
  | [], [], _ :: _, _, h => h
  | [], b :: q, _ :: _, h, _ => rfl
  | a :: r, [], z, h, _ => by cases h
  | a :: r, b :: q, [], _, h => by cases h
  | a :: r, b :: q, c :: t, h, k => by
    unfold lexL at h k ⊢
    by_cases e1 : b = a
    · rw [if_pos e1] at h
      by_cases e2 : c = b
      · rw [if_pos e2] at k
        rw [if_pos (e2.trans e1)]
        exact lexL_tr r q t h k
      · rw [if_neg e2] at k
        rw [if_neg (fun z => e2 (z.trans e1.symm))]
        have := of_decide_eq_false k
        exact decide_eq_false (by omega)
    · rw [if_neg e1] at h
      have h := of_decide_eq_false h
      by_cases e2 : c = b
      · rw [if_neg (fun z => e1 (e2.symm.trans z))]
        exact decide_eq_false (by omega)
      · rw [if_neg e2] at k
        have k := of_decide_eq_false k
        rw [if_neg (show ¬ c = a by omega)]
        exact decide_eq_false (by omega)
theorem lexL_eq : ∀ x y : List Int, lexL x y = false → lexL y x = false → x = y
  | [], [], _, _ => rfl
  | [], _ :: _, h, _ => by cases h
  | _ :: _, [], _, h => by cases h
  | a :: r, b :: q, h, k => by
    unfold lexL at h k
    by_cases e : a = b
    · rw [if_pos e] at h
      rw [if_pos e.symm] at k
      rw [e, lexL_eq r q h k]
    · rw [if_neg e] at h
      rw [if_neg (fun z => e z.symm)] at k
      have := of_decide_eq_false h
      have := of_decide_eq_false k
      omega
theorem lexL_swo {α : Type} (f : α → List Int) : SrtO.Swo fun x y => lexL (f x) (f y) := ⟨fun x y h => lexL_asym _ _ h, fun x y z h k => lexL_tr _ _ _ h k⟩
section
variable {prog : Program} {w : World} {A : Around} {E : Value → Shared → Prop} {s : Shared} {Q : Bool → Shared → Prop}
theorem lex_intsL {b : Bool} {xs ys : List Value} {ns ms : List Int} (i : Nat) (hx : IntsAre xs ns) (hy : IntsAre ys ms) (hl : ns.length = ms.length)
    (h : Q (lexL ns ms) s) : PySem.W.KatLex prog w A b false Q (xs.zip ys) i s := by
  induction hx generalizing ys ms i with
  | nil =>
    cases hy with
    | nil => exact PySem.W.kat_nil h
    | cons q u hy => simp at hl
  | @cons p t xs ns hx ih =>
    cases hy with
    | nil => simp at hl
    | @cons q u ys ms hy =>
      have hl' : ns.length = ms.length := by simpa using hl
      show PySem.W.KatLex prog w A b false Q ((Value.int p t, Value.int q u) :: xs.zip ys) i s
      refine PySem.W.kat_cons (wpAny_eqBool_int ?_)
      unfold lexL at h
      by_cases e : p = q
      · subst e
        rw [if_pos rfl] at h
        rw [beq_self_eq_true]
        refine PySem.W.kat_yes ?_
        first
          | exact ih (i + 1) hy hl' h
          | exact ih _ _ (i + 1) hy hl' h
      · rw [if_neg e] at h
        rw [show (p == q) = false from beq_eq_false_iff_ne.mpr e]
        exact PySem.W.kat_no (TS.oneLt_ints _ h)
/-- what is sorted: tuples of so many ints -/
def TupsL (h : Heap) (d : Nat) (f : Value → List Int) (vs : List Value) : Prop := ∀ v, v ∈ vs → TS.TupInts h v (f v) ∧ (f v).length = d
theorem TupsL.keeps {h h' : Heap} {d : Nat} {f : Value → List Int} {vs : List Value} (x : TupsL h d f vs) (k : ∀ b o, h.get? b = some o → o.cls = .type "tuple" → h'.get? b = some o) : TupsL h' d f vs := fun v hv => ⟨(x v hv).1.keeps k, (x v hv).2⟩
theorem firstsL {h : Heap} {d : Nat} {f : Value → List Int} (hd : 1 ≤ d) : ∀ vs : List Value, TupsL h d f vs → ∃ fs, PySem.W.KatTups h vs fs ∧ fs.length = vs.length ∧ ∀ g, g ∈ fs → ∃ n t, g = Value.int n t
  | [], _ => ⟨[], PySem.W.KatTups.nil, rfl, fun f hf => by simp at hf⟩
  | v :: vs, x => by
    obtain ⟨fs, k, hl, hi⟩ := firstsL hd vs fun u hu => x u (List.mem_cons_of_mem _ hu)
    obtain ⟨⟨a, xs, rfl, ⟨o, ho, hc, n, hdt⟩, i⟩, hn⟩ := x v List.mem_cons_self
    obtain ⟨y, ys, e⟩ : ∃ y ys, xs.toList = y :: ys := by
      cases q : xs.toList with
      | nil =>
        rw [q] at i
        have l := i.length
        rw [List.length_nil, hn] at l
        omega
      | cons y ys => exact ⟨y, ys, rfl⟩
    obtain ⟨m, t, hy⟩ := i.all y (by rw [e]; exact List.mem_cons_self)
    refine ⟨y :: fs, PySem.W.KatTups.cons ho hc hdt ?_ k, by simp [hl], ?_⟩
    · have z := congrArg (fun l : List Value => l[0]?) e
      simpa using z
    · intro f hf
      rcases List.mem_cons.mp hf with rfl | hf
      · exact ⟨m, t, hy⟩
      · exact hi f hf
theorem tups_cmpL {d : Nat} {f : Value → List Int} {vs : List Value} (x : TupsL s.heap d f vs) : SrtO.Cmp prog w A s (tuples' true) (fun p => p.1 ∈ vs) (SrtO.lt2 fun v u => lexL (f v) (f u)) := by
  intro p q hp hq
  obtain ⟨⟨a, xs, e1, ⟨o, ho, hc, n, hdt⟩, i⟩, l1⟩ := x _ hp
  obtain ⟨⟨a', ys, e2, ⟨o', ho', hc', n', hdt'⟩, i'⟩, l2⟩ := x _ hq
  show wpAny (model prog w) A (keyLt' (tuples' true) p.1 q.1) (fun r s' => s' = s ∧ r = lexL (f p.1) (f q.1)) (fun _ _ => False) s
  generalize f p.1 = ns at *
  generalize f q.1 = ms at *
  rw [e1, e2]
  refine PySem.W.kat_lt ho hdt ho' hdt' ?_
  have sz : decide (xs.size < ys.size) = false := by
    have l1 := i.length
    have l2 := i'.length
    rw [Array.length_toList] at l1 l2
    exact decide_eq_false (by omega)
  rw [sz]
  exact lex_intsL 0 i i' (by omega) ⟨rfl, rfl⟩
theorem tups_sortL {d : Nat} {a : Addr} {f : Value → List Int} {vs : List Value} (hd : 1 ≤ d) (h0 : 0 < vs.length) (x : TupsL s.heap d f vs) (ha : ∀ o, s.heap.get? a = some o → o.cls ≠ .type "tuple") : SrtO.SortableO prog w A s a vs fun v u => lexL (f v) (f u) := by
  intro h' keep
  have x' : TupsL h' d f vs := x.keeps fun b o e c => keep b o (fun z => by subst z; exact ha o e c) e
  obtain ⟨fs, h1, h2, h3⟩ := firstsL hd vs x'
  refine ⟨tuples' true, fun Q E hq => ?_, tups_cmpL x'⟩
  refine PySem.W.kat_kind (T := .type "int") h1 (by omega) (fun f hm => ?_) (by rfl) ?_
  · obtain ⟨x, t, rfl⟩ := h3 f hm
    exact PySem.W.Looks.now
  · have e : (Value.type "int" != Value.type "tuple") = true := by first | decide +kernel | rfl | decide
    rw [e]
    exact hq
end
end Mn
namespace Mn
open PySem PySem.Spec PyProof.Rows L2
def rSortL (K : PySem.W.Frag) (d : Nat) : List V → Hp → VK → Prop := fun vs H Q => ∃ (a : Addr) (xs : List V) (f : V → List Int), vs = [V.ref a] ∧ SqL K H a xs ∧ (∀ x ∈ xs, ∃ t, x = V.ref t ∧ SqT K H t ((f x).map V.int) ∧ (f x).length = d) ∧
  ∀ ys p, SrtO.Srtd (fun x y => lexL (f x) (f y)) ys → ys.Perm xs → H p = none → Q (.ref p) (upd H p (.lst ys))
theorem call_sortL {X : Cx} {d : Nat} (hd : 1 ≤ d) : CallR X (.builtin "sorted") (rSortL X.K d) := by
  intro pins s σ H vs us Q I r h
  obtain ⟨a, xs, f, rfl, hs, hx, q⟩ := h
  obtain ⟨its, rv, hl, hz⟩ := I.list hs
  obtain ⟨u, rfl, ru⟩ := vals1 r
  obtain rfl : u = Value.ref a := ru
  obtain ⟨e1, e2⟩ := refs_back rv fun x m => by
    obtain ⟨t, e, _⟩ := hx x m
    exact ⟨t, e⟩
  have tl : TupsL s.heap d (fun u => f (backV u)) its := fun v hv => by
    obtain ⟨t, rfl⟩ := e2 v hv
    have hm : V.ref t ∈ xs := by rw [e1]; exact List.mem_map.mpr ⟨_, hv, rfl⟩
    obtain ⟨t', e, ht, hn⟩ := hx _ hm
    cases e
    obtain ⟨its2, rv2, hT, _⟩ := I.tuple ht
    have z : IntsAre its2.toArray.toList (f (V.ref t)) := by simpa using rv2.ints
    exact ⟨⟨_, its2.toArray, rfl, hT, z⟩, hn⟩
  have hz' : its.length ≤ sizeLine := by rw [← rv.length]; exact hz
  refine SrtO.sorted_ord (lexL_swo fun u => f (backV u)) hl.isList hz' (fun h2 h₁ b hb kk => ?_) fun out h1 h2 => ?_
  · refine tups_sortL (s := { s with heap := h₁ }) hd (by omega) (tl.keeps fun b o e _ => (kk b o e).2) fun o e => ?_
    have e' := e.symm.trans hb
    cases e'
    intro c
    exact absurd (Value.type.inj c) (by decide)
  · have h3 : ∀ u ∈ out, ∃ a, u = Value.ref a := fun u hu => e2 u (h2.perm.mem_iff.mp hu)
    obtain ⟨n, hn⟩ := sortedAll_at s.heap its out.toArray
    have hp : (out.map backV).Perm xs := by
      rw [e1]
      exact h2.perm.map backV
    refine ⟨.ref _, upd H (s.heap.objs.size + 1) (.lst (out.map backV)), I.laid (t' := s.toks) (fun _ _ => sortedAll_old) (Nat.le_succ _) ⟨?_, out, n, vals_back h3, hn⟩, rfl, q _ _ (SrtO.srtd_map h1) hp (I.hok.fresh (Nat.le_succ _))⟩
    rw [hp.length_eq]
    exact hz
def sortedD : On := fun ds _ P => match ds with
  | [.lst [.tup xs, .tup ys]] => ∃ ns ms : List Int, xs = ns.map D.int ∧ ys = ms.map D.int ∧ 1 ≤ ns.length ∧ ms.length = ns.length ∧ P (.lst (if lexL ms ns = true then [.tup ys, .tup xs] else [.tup xs, .tup ys]))
  | _ => False
theorem repl_intsV {K : PySem.W.Frag} {H : Hp} {m : Ms} : ∀ {ns : List Int} {vs : List V}, RepL K H m (ns.map D.int) vs → vs = ns.map V.int
  | [], vs, h => by unfold RepL at h; exact h
  | n :: ns, vs, h => by
    rw [List.map_cons] at h
    unfold RepL at h
    obtain ⟨v, r, rfl, h1, h2⟩ := h
    unfold Rep at h1
    rw [h1, repl_intsV h2]
    rfl
theorem perm_two {α : Type} {x y : α} {l : List α} (h : l.Perm [x, y]) : l = [x, y] ∨ l = [y, x] := by
  have hl := h.length_eq
  match l, hl with
  | [a, b], _ =>
    have ha : a ∈ [x, y] := h.mem_iff.mp (by simp)
    simp only [List.mem_cons, List.not_mem_nil, or_false] at ha
    rcases ha with rfl | rfl
    · have := (List.perm_cons a).mp h
      rw [List.perm_singleton] at this
      injection this with e
      rw [e]
      exact .inl rfl
    · have := (List.perm_cons a).mp (h.trans (List.Perm.swap a x []))
      rw [List.perm_singleton] at this
      injection this with e
      rw [e]
      exact .inr rfl
theorem bf_sorted {X : Cx} : CallR X (.builtin "sorted") (LVn X.K sortedD) := by
  intro pins s σ H xs us Q I r h
  obtain ⟨hc', m, ds, P, w, h1, f, fin⟩ := h
  unfold sortedD at f
  split at f
  · rename_i xs ys
    obtain ⟨v, rfl, k1⟩ := wl1 h1
    obtain ⟨ns, ms, rfl, rfl, n1, n2, f⟩ := f
    unfold RepW at k1
    obtain ⟨p, vs, rfl, q, rl⟩ := k1
    have rl0 := rl
    unfold RepL at rl
    obtain ⟨x, _, rfl, r1, rl⟩ := rl
    unfold RepL at rl
    obtain ⟨y, _, rfl, r2, rl⟩ := rl
    unfold RepL at rl
    subst rl
    have r1' := r1
    have r2' := r2
    unfold Rep at r1 r2
    obtain ⟨px, ux, rfl, sx, lx⟩ := r1
    obtain ⟨py, uy, rfl, sy, ly⟩ := r2
    have ex := repl_intsV lx
    have ey := repl_intsV ly
    subst ex; subst ey
    refine call_sortL (X := X) n1 pins s σ H _ us Q I r ⟨p, _, fun z => if z = V.ref px then ns else ms, rfl, .of q, fun z hz => ?_, fun out b hs hp hn => ?_⟩
    · simp only [List.mem_cons, List.not_mem_nil, or_false] at hz
      rcases hz with rfl | rfl
      · refine ⟨px, rfl, ?_, ?_⟩
        · dsimp only
          rw [if_pos rfl]
          exact sx
        · dsimp only
          rw [if_pos rfl]
      · dsimp only
        by_cases e : V.ref py = V.ref px
        · rw [if_pos e]
          cases e
          exact ⟨_, rfl, sx, rfl⟩
        · rw [if_neg e]
          exact ⟨py, rfl, sy, n2⟩
    · have go : ∀ D1 D2 : D, ∀ V1 V2 : V, Rep X.K H m D1 V1 → Rep X.K H m D2 V2 → P (.lst [D1, D2]) → Q (.ref b) (upd H b (.lst [V1, V2])) := fun D1 D2 V1 V2 a1 a2 pp => fin _ pp _ _ (same_upd hn) (rep_lst w.mu hn (RepL.cons a1 (RepL.cons a2 RepL.nil)))
      rcases perm_two hp with rfl | rfl
      · by_cases c : lexL ms ns = true
        · rw [if_pos c] at f
          have h2 := (List.pairwise_cons.mp hs).1 (V.ref py) (by simp)
          by_cases e : V.ref py = V.ref px
          · cases e
            have em : ns = ms := by
              obtain ⟨i1, v1, t1, _⟩ := I.tuple sx
              obtain ⟨i2, v2, t2, _⟩ := I.tuple sy
              have a1 := v1.ints
              have a2 := v2.ints
              obtain ⟨o1, g1, _, n3, d1⟩ := t1
              obtain ⟨o2, g2, _, n4, d2⟩ := t2
              rw [g1] at g2
              cases g2
              rw [d1] at d2
              injection d2 with d3
              have e3 : i1 = i2 := by simpa using congrArg Array.toList d3
              subst e3
              rw [← a1.nums, ← a2.nums]
            subst em
            exact go _ _ _ _ r2' r1' f
          · dsimp only at h2
            rw [if_pos rfl, if_neg e, c] at h2
            cases h2
        · rw [if_neg c] at f
          exact go _ _ _ _ r1' r2' f
      · by_cases c : lexL ms ns = true
        · rw [if_pos c] at f
          exact go _ _ _ _ r2' r1' f
        · rw [if_neg c] at f
          have h2 := (List.pairwise_cons.mp hs).1 (V.ref px) (by simp)
          by_cases e : V.ref py = V.ref px
          · cases e
            exact go _ _ _ _ r1' r2' f
          · dsimp only at h2
            rw [if_pos rfl, if_neg e] at h2
            have em := lexL_eq _ _ h2 (Bool.eq_false_iff.mpr c)
            subst em
            exact go _ _ _ _ r2' r1' f
  · exact f.elim
theorem o_sorted {ns ms : List Int} {hc : CH} {P : D → Prop} (h1 : 1 ≤ ns.length) (h2 : ms.length = ns.length) (k : P (.lst (if lexL ms ns = true then [.tup (ms.map D.int), .tup (ns.map D.int)] else [.tup (ns.map D.int), .tup (ms.map D.int)]))) : sortedD [.lst [.tup (ns.map D.int), .tup (ms.map D.int)]] hc P := ⟨ns, ms, rfl, rfl, h1, h2, k⟩
end Mn

namespace Mn
open PySem PySem.Spec PyProof.Rows L2
/-! ### zip of three lists -/
/-- the lists at a, b and c, the items in new triples, N of them -/
def Itz3 (K : PySem.W.Frag) (a b c : Addr) (N : Nat) : It :=
  ⟨fun i H => i < N ∧ ∃ (xs ys zs : List V) (x y u : V), SqL K H a xs ∧ SqL K H b ys ∧ SqL K H c zs ∧ xs[i]? = some x ∧ ys[i]? = some y ∧ zs[i]? = some u,
    fun i H v H' => ∃ T x y u, v = .ref T ∧ H T = none ∧ H' = upd H T (.tup [x, y, u]) ∧ (∀ xs, SqL K H a xs → xs[i]? = some x) ∧ (∀ ys, SqL K H b ys → ys[i]? = some y) ∧ ∀ zs, SqL K H c zs → zs[i]? = some u,
    fun i H => N ≤ i ∧ ∃ xs ys zs : List V, SqL K H a xs ∧ SqL K H b ys ∧ SqL K H c zs ∧ N ≤ xs.length ∧ N ≤ ys.length ∧ N ≤ zs.length ∧ (N = xs.length ∨ N = ys.length ∨ N = zs.length)⟩
theorem turn_zip3 {P : Program} {w : World} {K : PySem.W.Frag} {elts : List Expr} {kk : Nat} {tpos : Pos} {a b c z TI TO i1 i2 i3 : Addr} {N : Nat} (S : ZipSep3 z TI TO i1 i2 i3 [i1, a] [i2, b] [i3, c]) (na : a ≠ i1) (nb : b ≠ i2) (nc : c ≠ i3) :
    Turn P w K (.Tuple elts kk tpos) (Itz3 K a b c N) [z, TI, TO, i1, i2, i3] z (fun i h => i ≤ N ∧ IsZip h z TI TO .none ∧ IsTupOf3 h TI (.ref i1) (.ref i2) (.ref i3) ∧ (∃ x y u, IsTupOf3 h TO x y u) ∧ h.IsListIter i1 a i ∧ h.IsListIter i2 b i ∧ h.IsListIter i3 c i) where
  mem := by simp
  obj := fun i h st x hx => by
    obtain ⟨_, hz, hTI, ⟨_, _, _, hTO⟩, ⟨o1, e1, _, d1⟩, ⟨o2, e2, _, d2⟩, ⟨o3, e3, _, d3⟩⟩ := st
    have e' : x = z ∨ x = TI ∨ x = TO ∨ x = i1 ∨ x = i2 ∨ x = i3 := by simpa using hx
    rcases e' with q | q | q | q | q | q
    · rw [q]; exact ⟨_, hz, fun v q => nomatch q⟩
    · rw [q]; exact ⟨_, hTI, fun v q => nomatch q⟩
    · rw [q]; exact ⟨_, hTO, fun v q => nomatch q⟩
    · rw [q]; exact ⟨o1, e1, fun v q => by rw [d1] at q; cases q⟩
    · rw [q]; exact ⟨o2, e2, fun v q => by rw [d2] at q; cases q⟩
    · rw [q]; exact ⟨o3, e3, fun v q => by rw [d3] at q; cases q⟩
  keep := fun i h h' st k => by
    obtain ⟨iN, hz, hTI, ⟨x, y, u, hTO⟩, h1, h2, h3⟩ := st
    exact ⟨iN, k z (by simp) _ hz, k TI (by simp) _ hTI, ⟨x, y, u, k TO (by simp) _ hTO⟩, h1.at fun o q => k i1 (by simp) o q, h2.at fun o q => k i2 (by simp) o q, h3.at fun o q => k i3 (by simp) o q⟩
  item := by
    intro X hP hw hK hc i pins s σ H E I hf st hg
    subst hP hw hK
    obtain ⟨iN, hz, hTI, ⟨x0, y0, u0, hTO⟩, h1, h2, h3⟩ := st
    obtain ⟨iL, xs, ys, zs, x, y, u, hqx, hqy, hqz, hx, hy, hu⟩ := hg
    obtain ⟨its, rv, p1, _⟩ := I.list hqx
    obtain ⟨its2, rv2, p2, _⟩ := I.list hqy
    obtain ⟨its3, rv3, p3, _⟩ := I.list hqz
    obtain ⟨v1, hv1, rv1⟩ := rv.get hx
    obtain ⟨v2, hv2, rv2'⟩ := rv2.get hy
    obtain ⟨v3, hv3, rv3'⟩ := rv3.get hu
    have hzl : z < s.heap.objs.size := Heap.lt_size hz
    have D1 := Draws.list (prog := X.prog) (w := X.w) (A := X.A.in1) (I.ok.hd hc) i1 a na its.toArray
    have D2 := Draws.list (prog := X.prog) (w := X.w) (A := X.A.in1) (I.ok.hd hc) i2 b nb its2.toArray
    have D3 := Draws.list (prog := X.prog) (w := X.w) (A := X.A.in1) (I.ok.hd hc) i3 c nc its3.toArray
    have lt : ∀ {l : List Value} {v : Value}, l[i]? = some v → i < l.toArray.size := fun e => by
      have := (List.getElem?_eq_some_iff.mp e).1
      simpa using this
    refine wpAny_pyNext_zipD3_item S D1 D2 D3 hz hTI hTO ⟨h1, p1.isList⟩ ⟨h2, p2.isList⟩ ⟨h3, p3.isList⟩ (lt hv1) (lt hv2) (lt hv3) fun w1 w2 w3 h' tk q1 q2 q3 z' TO' s1' s2' s3' hT hsz hk => ?_
    have same : ∀ {l : List Value} {v w : Value}, l[i]? = some v → l.toArray[i]? = some w → w = v := fun e g => by
      rw [List.getElem?_toArray, e] at g
      exact (Option.some.inj g).symm
    obtain rfl := same hv1 q1
    obtain rfl := same hv2 q2
    obtain rfl := same hv3 q3
    refine ⟨_, rfl, wpAny_letOwnedTupleGo_zip (s := { s with heap := h', toks := tk }) z' fun h'' z'' sb => ?_⟩
    have hT2 : h''.get? s.heap.objs.size = some { cls := .type "tuple", data := .seq #[w1, w2, w3] } := (sb.2 _ (Nat.ne_of_gt hzl)).trans hT
    have new : ObjOk X.prog X.w (upd H s.heap.objs.size (.tup [x, y, u])) h'' s.heap.objs.size (.tup [x, y, u]) :=
      ⟨by show 3 ≤ sizeLine; decide, [w1, w2, w3], .cons rv1 (.cons rv2' (.cons rv3' .nil)), ⟨_, hT2, rfl, _, rfl⟩⟩
    have I1 : Inv X pins σ (upd H s.heap.objs.size (.tup [x, y, u])) { s with heap := h'', toks := tk } :=
      I.turnedNew (t' := tk) (ch := [z, TI, TO, i1, i2, i3]) (fun e o hb q => (sb.2 e (fun q' => hb (by simp [q']))).trans (hk e o (fun q' => hb (by simp [q'])) (fun q' => hb (by simp [q'])) (fun q' => hb (by simp [q'])) (fun q' => hb (by simp [q'])) (fun q' => hb (by simp [q'])) q)) hf (Nat.le_refl _) new
    refine ⟨.ref s.heap.objs.size, _, I1, rfl, ⟨_, x, y, u, rfl, I.hok.fresh (Nat.le_refl _), rfl, fun l hl => by rw [I.list_inj hl hqx]; exact hx, fun l hl => by rw [I.list_inj hl hqy]; exact hy, fun l hl => by rw [I.list_inj hl hqz]; exact hu⟩, ⟨iL, z'', ?_, ⟨w1, w2, w3, ?_⟩, ?_, ?_, ?_⟩, fun e he => ?_⟩
    · exact (sb.2 _ S.TIz).trans (hk _ _ S.TIz S.TITO S.TIi1 S.TIi2 S.TIi3 hTI)
    · exact (sb.2 _ S.TOz).trans TO'
    · exact s1'.1.at fun o q => (sb.2 _ (Ne.symm S.zi1)).trans q
    · exact s2'.1.at fun o q => (sb.2 _ (Ne.symm S.zi2)).trans q
    · exact s3'.1.at fun o q => (sb.2 _ (Ne.symm S.zi3)).trans q
    · have hlt : e < s.heap.objs.size := by
        have e' : e = z ∨ e = TI ∨ e = TO ∨ e = i1 ∨ e = i2 ∨ e = i3 := by simpa using he
        rcases e' with q | q | q | q | q | q
        · rw [q]; exact hzl
        · rw [q]; exact Heap.lt_size hTI
        · rw [q]; exact Heap.lt_size hTO
        · rw [q]; obtain ⟨_, e1, _⟩ := h1; exact Heap.lt_size e1
        · rw [q]; obtain ⟨_, e2, _⟩ := h2; exact Heap.lt_size e2
        · rw [q]; obtain ⟨_, e3, _⟩ := h3; exact Heap.lt_size e3
      rw [upd_ne (Nat.ne_of_lt hlt)]
      exact (hf e he).1
  done := by
    intro X hP hw hK hc i pins s σ H E I hf st hg
    subst hP hw hK
    obtain ⟨iN, hz, hTI, ⟨x0, y0, u0, hTO⟩, h1, h2, h3⟩ := st
    obtain ⟨Ni, xs, ys, zs, hqx, hqy, hqz, m1, m2, m3, hend⟩ := hg
    obtain rfl : i = N := Nat.le_antisymm iN Ni
    obtain ⟨its, rv, p1, _⟩ := I.list hqx
    obtain ⟨its2, rv2, p2, _⟩ := I.list hqy
    obtain ⟨its3, rv3, p3, _⟩ := I.list hqz
    have l1 := rv.length
    have l2 := rv2.length
    have l3 := rv3.length
    have D1 := Draws.list (prog := X.prog) (w := X.w) (A := X.A.in1) (I.ok.hd hc) i1 a na its.toArray
    have D2 := Draws.list (prog := X.prog) (w := X.w) (A := X.A.in1) (I.ok.hd hc) i2 b nb its2.toArray
    have D3 := Draws.list (prog := X.prog) (w := X.w) (A := X.A.in1) (I.ok.hd hc) i3 c nc its3.toArray
    exact wpAny_pyNext_zipD3_end S D1 D2 D3 hz hTI hTO ⟨h1, p1.isList⟩ ⟨h2, p2.isList⟩ ⟨h3, p3.isList⟩ (by simp; omega) (by simp; omega) (by simp; omega) (by simp; omega) fun h' tk hk => ⟨rfl, I.turnedL (t' := tk) (ch := [z, TI, TO, i1, i2, i3]) (fun e o hb q =>
      hk e o (fun q' => hb (by simp [q'])) (fun q' => hb (by simp [q'])) (fun q' => hb (by simp [q'])) (fun q' => hb (by simp [q'])) (fun q' => hb (by simp [q'])) q) hf⟩
  self := fun A i s Q E st h => wpAny_pyIter_zip st.2.1 h
theorem sep3_new (n a b c : Nat) (h1 : a < n) (h2 : b < n) (h3 : c < n) : ZipSep3 (n + 5) (n + 3) (n + 4) n (n + 1) (n + 2) [n, a] [n + 1, b] [n + 2, c] := by
  have ne : ∀ {x y : Nat}, x ≠ y → (show Addr from x) ≠ (show Addr from y) := fun h e => h e
  constructor <;> first
    | exact List.mem_cons_self
    | exact ne (by omega)
    | (intro h
       rcases List.mem_cons.mp h with h | h
       · exact ne (by omega) h
       · exact ne (by omega) (List.mem_singleton.mp h))
def iZip3 (K : PySem.W.Frag) (ta : TA) : TI := fun σ H R => ta σ H fun vs H1 => ∃ a b c xs ys zs N, vs = [.ref a, .ref b, .ref c] ∧ SqL K H1 a xs ∧ SqL K H1 b ys ∧ SqL K H1 c zs ∧ R (Itz3 K a b c N) H1
theorem pi_zip3 {X : Cx} {e e2 e3 : Expr} {ta : TA} {p pos tpos : Pos} {elts : List Expr} {kk : Nat} (hg : Gl X "zip") (hm : X.mg "zip" = none) (ha : PA X [e, e2, e3] ta)
    (hs : starEach [e, e2, e3] X.env = (false, eval e X.env) :: starEach [e2, e3] X.env := by rfl) (hpl : (backTo pos (starEach [e2, e3] X.env)).any (·.1) = false := by rfl) :
    PI X (.Tuple elts kk tpos) (.Call (.Name "zip" p) [e, e2, e3] [] pos) (iZip3 X.K ta) := by
  refine ⟨fun pins s σ H R I h => ?_⟩
  refine Call_ (ld_blt I hg hm PyProof.Rows.boot_zip (PyProof.Rows.callWith_type1 (thn (ha.run pos pins s σ H _ I h) fun us s1 ⟨vs, H1, I1, r1, q1⟩ => ?_) hs hpl))
  obtain ⟨a, b, c, xs, ys, zs, N, ex, hqx, hqy, hqz, q⟩ := q1
  subst ex
  obtain _ | ⟨r, rr⟩ := r1
  obtain _ | ⟨r', rr⟩ := rr
  obtain _ | ⟨r'', rr⟩ := rr
  cases rr
  cases r
  cases r'
  cases r''
  obtain ⟨its, rv, p1, _⟩ := I1.list hqx
  obtain ⟨its2, rv2, p2, _⟩ := I1.list hqy
  obtain ⟨its3, rv3, p3, _⟩ := I1.list hqz
  have la : a < s1.heap.objs.size := p1.lt
  have lb : b < s1.heap.objs.size := p2.lt
  have lc : c < s1.heap.objs.size := p3.lt
  refine zip_begins3 (begins_list a its.toArray) (begins_list b its2.toArray) (begins_list c its3.toArray) p1.isList p2.isList p3.isList fun h' hz hTI hTO h1 h2 h3 hsz hk => wpAny_pyIter_zip hz ?_
  have I2 : Inv X pins σ H1 { s1 with heap := h' } := I1.kept (t' := s1.toks) hk
  refine ⟨s1.heap.objs.size + 5, [s1.heap.objs.size + 5, s1.heap.objs.size + 3, s1.heap.objs.size + 4, s1.heap.objs.size, s1.heap.objs.size + 1, s1.heap.objs.size + 2], _, _, H1, rfl, I2, turn_zip3 (N := N) (sep3_new s1.heap.objs.size a b c la lb lc) (Nat.ne_of_lt la) (Nat.ne_of_lt (Nat.lt_succ_of_lt lb)) (Nat.ne_of_lt (Nat.lt_succ_of_lt (Nat.lt_succ_of_lt lc))), ⟨Nat.zero_le _, hz, hTI, ⟨_, _, _, hTO⟩, ⟨_, h1, rfl, rfl⟩, ⟨_, h2, rfl, rfl⟩, ⟨_, h3, rfl, rfl⟩⟩, fun e hem => ?_, q⟩
  have hle : s1.heap.objs.size ≤ e := by
    have e' : e = s1.heap.objs.size + 5 ∨ e = s1.heap.objs.size + 3 ∨ e = s1.heap.objs.size + 4 ∨ e = s1.heap.objs.size ∨ e = s1.heap.objs.size + 1 ∨ e = s1.heap.objs.size + 2 := by simpa using hem
    rcases e' with z | z | z | z | z | z
    · rw [z]; exact Nat.le_add_right _ _
    · rw [z]; exact Nat.le_add_right _ _
    · rw [z]; exact Nat.le_add_right _ _
    · rw [z]; exact Nat.le_refl _
    · rw [z]; exact Nat.le_add_right _ _
    · rw [z]; exact Nat.le_add_right _ _
  exact I1.fpOk hle (I1.hok.fresh hle)
def zip3D (xs ys zs : List D) : List D := (List.range (min (min xs.length ys.length) zs.length)).map fun i => D.tup [xs.getD i .non, ys.getD i .non, zs.getD i .non]
def zip3P (ds : List D) (P : List D → CH → Prop) (hc : CH) : Prop := match ds with
  | [.lst xs, .lst ys, .lst zs] => P (zip3D xs ys zs) hc
  | _ => False
def cZip3 (c1 c2 c3 : CEx) : CIx := fun E sc hc P => cCons c1 (cCons c2 (cCons c3 cNil)) E sc hc fun ds hc1 => zip3P ds P hc1
theorem getD_some {α : Type} {xs : List α} {i : Nat} {d : α} (h : i < xs.length) : xs[i]? = some (xs.getD i d) := by
  rw [List.getD_eq_getElem?_getD, List.getElem?_eq_getElem h]
  rfl
theorem ci_zip3 {X : Cx} {W : WX} {elts : List Expr} {kk : Nat} {tpos p pos : Pos} {e e2 e3 : Expr} {c1 c2 c3 : CEx} (hm : X.mg "zip" = none) (h1 : CE X W e c1) (h2 : CE X W e2 c2) (h3 : CE X W e3 c3) (hg : Gl X "zip" := by rfl) (hs : starEach [e, e2, e3] X.env = (false, eval e X.env) :: starEach [e2, e3] X.env := by rfl) (hs2 : starEach [e2, e3] X.env = (false, eval e2 X.env) :: starEach [e3] X.env := by rfl) (hs3 : starEach [e3] X.env = (false, eval e3 X.env) :: starEach [] X.env := by rfl) (hpl : (backTo pos (starEach [e2, e3] X.env)).any (·.1) = false := by rfl) :
    CI X W (.Tuple elts kk tpos) (.Call (.Name "zip" p) [e, e2, e3] [] pos) (cZip3 c1 c2 c3) := ⟨pi_wk (pi_zip3 hg hm (ca_cons h1 (ca_cons h2 (ca_cons h3 ca_nil hs3) hs2) hs).p hs hpl) fun σ H R ⟨en, sc, hc, m, E, P, r, k, xo, fin⟩ =>
  ⟨en, sc, hc, m, E, fun ds hc1 => zip3P ds P hc1, r, k, xo, fun ds hc1 pz vs H1 m1 x1 q => by
    have mu1 := (r.call x1).mu
    have pz : zip3P ds P hc1 := pz
    unfold zip3P at pz
    split at pz
    · rename_i xs ys zs _
      unfold RepL at q
      obtain ⟨v1, r1, rfl, qa, q⟩ := q
      unfold RepL at q
      obtain ⟨v2, r2, rfl, qb, q⟩ := q
      unfold RepL at q
      obtain ⟨v3, r3, rfl, qc, q⟩ := q
      unfold RepL at q
      subst q
      unfold Rep at qa qb qc
      obtain ⟨a, us, rfl, na, ha, la⟩ := qa
      obtain ⟨b, ws, rfl, nb, hb, lb⟩ := qb
      obtain ⟨c, ts, rfl, nc, hcc, lc⟩ := qc
      have e1 := la.length
      have e2 := lb.length
      have e3 := lc.length
      refine ⟨a, b, c, us, ws, ts, min (min xs.length ys.length) zs.length, rfl, .of ha, .of hb, .of hcc, fin _ hc1 pz _ H1 m1 x1 fun H2 m2 mo s2 i => ⟨fun d ed => ?_, fun hl => ?_⟩⟩
      · unfold zip3D at ed
        rw [List.getElem?_map] at ed
        by_cases il : i < min (min xs.length ys.length) zs.length
        · rw [List.getElem?_range il] at ed
          cases ed
          have ex := getD_some (d := D.non) (show i < xs.length by omega)
          have ey := getD_some (d := D.non) (show i < ys.length by omega)
          have ez := getD_some (d := D.non) (show i < zs.length by omega)
          obtain ⟨u, eu, ru⟩ := la.get ex
          obtain ⟨w, ew, rw'⟩ := lb.get ey
          obtain ⟨t, et, rt⟩ := lc.get ez
          have hqa := SqL.of (K := X.K) (s2.keep _ _ ha trivial na)
          have hqb := SqL.of (K := X.K) (s2.keep _ _ hb trivial nb)
          have hqc := SqL.of (K := X.K) (s2.keep _ _ hcc trivial nc)
          refine ⟨⟨il, us, ws, ts, u, w, t, hqa, hqb, hqc, eu, ew, et⟩, fun x3 H3 ⟨T, u', w', t', e3, nT, eH, g1, g2, g3⟩ => ?_⟩
          have t1 := g1 us hqa
          have t2 := g2 ws hqb
          have t3 := g3 ts hqc
          rw [eu] at t1; cases t1
          rw [ew] at t2; cases t2
          rw [et] at t3; cases t3
          subst e3
          subst eH
          exact ⟨same_upd nT, rep_tup mo nT (RepL.cons (Rep.mono mu1 s2 _ _ ru) (RepL.cons (Rep.mono mu1 s2 _ _ rw') (RepL.cons (Rep.mono mu1 s2 _ _ rt) RepL.nil)))⟩
        · rw [List.getElem?_eq_none (by rw [List.length_range]; omega)] at ed
          cases ed
      · unfold zip3D at hl
        rw [List.length_map, List.length_range] at hl
        exact ⟨hl, us, ws, ts, .of (s2.keep _ _ ha trivial na), .of (s2.keep _ _ hb trivial nb), .of (s2.keep _ _ hcc trivial nc), by omega, by omega, by omega, by omega⟩
    · exact pz.elim⟩⟩
theorem e_Zip3 {c1 c2 c3 : CEx} {E : XP} {sc : List Sl} {hc : CH} {P : List D → CH → Prop} : cZip3 c1 c2 c3 E sc hc P = cCons c1 (cCons c2 (cCons c3 cNil)) E sc hc fun ds hc1 => zip3P ds P hc1 := rfl
theorem o_zip3 {xs ys zs : List D} {hc : CH} {P : List D → CH → Prop} : zip3P [.lst xs, .lst ys, .lst zs] P hc = P (zip3D xs ys zs) hc := rfl
/-! ### repr amid a suite -/
theorem bf_reprU {X : Cx} (un : X.A.units + 200 < cLine) (gg : X.A.guards = some []) (st : statK X.K = true) : CallR X (.builtin "repr") (LVn X.K reprD) := by
  intro pins s σ H xs us Q I r h
  obtain ⟨hc', m, ds, P, w, h1, f, fin⟩ := h
  unfold reprD at f
  split at f
  · rename_i d
    obtain ⟨v, rfl, k1⟩ := wl1 h1
    obtain ⟨⟨n, c, hn, hcz, p, ep, sp, dp, lp⟩, q⟩ := f
    unfold shw at q
    rw [ep] at q
    obtain ⟨u, rfl, ru⟩ := vals1 r
    have S : Stat s.heap := stat_of I.kIn I.nolimit st
    obtain ⟨as, rd, nm⟩ := readsW I S d v u p ep k1 ru
    have hz : p.shown.length ≤ sizeLine := by omega
    have done : ∀ (h' : Heap) (t tk : Nat), (∀ b o, s.heap.get? b = some o → h'.get? b = some o) → EP X pins σ Q (.str p.shown t) { s with heap := h', toks := tk } := fun h' t tk hk =>
      ⟨.str p.shown, H, I.kept (t' := tk) hk, ⟨t, rfl⟩, fin _ q _ _ (.refl H) rep_str⟩
    cases rd with
    | none => exact PySem.P.repr_of_none (done s.heap _ _ fun _ _ e => e)
    | bool b => exact PySem.P.repr_of_bool (done s.heap _ _ fun _ _ e => e)
    | int i t => exact call_repr_slot (T := "int") (idr := "int.__repr__") (by omega) (typeIs_int s i t) F.slot_int_repr.toG (call_intrepr S sp ⟨_, _, rfl, done s.heap _ _ fun _ _ e => e⟩)
    | str x t => exact PySem.P.repr_of_str (done s.heap _ _ fun _ _ e => e) hz
    | list a1 a2 a3 a4 => exact repr_tree S (.list a1 a2 a3 a4) sp nm gg (by omega) hz (fun h' t tk hk => done h' t tk hk)
    | tuple a1 a2 a3 a4 => exact repr_tree S (.tuple a1 a2 a3 a4) sp nm gg (by omega) hz (fun h' t tk hk => done h' t tk hk)
    | dict a1 a2 a3 a4 a5 => exact repr_tree S (.dict a1 a2 a3 a4 a5) sp nm gg (by omega) hz (fun h' t tk hk => done h' t tk hk)
  · exact f.elim
theorem bf_reprS {X : Cx} {a : Addr} {pn : List (Addr × Obj)} {k : Nat} (g : RG k X.A) (st : statK X.K = true) : CallR (X.suite a pn) (.builtin "repr") (LVn (X.suite a pn).K reprD) := bf_reprU (X := X.suite a pn) (by have := g.r.un; show X.A.units + 200 < cLine; omega) g.g st
end Mn

namespace Mn
open PySem L2
/-! ### a def under another name (y = x at the module's top) -/
def DefA (K : PySem.W.Frag) (mg : Str → Option Value) (al x : Str) (st : Stmt) : Prop := ∃ (f : Addr) (fd : FuncData), FunD K x x (defArgs st) (defBody st) (defScope st) [] [] f fd ∧ mg al = some (.ref f)
theorem fn_atA {P : Program} {w : World} {K : PySem.W.Frag} {mg : Str → Option Value} {base : Heap} {al x : Str} {st : Stmt} {N ps : List Str} {k : Nat} {sp : Spc} {c : CSx} (F : DefA K mg al x st) (S : FnScope N ps (defScope st))
    (hb : ∀ (f : Addr) (cdv : Value) (A : Around) (outer : List Env) (s : Shared) (H : Hp) (E : XK), RT k (cxD P w K mg base N x (defScope st) f cdv A outer s H E) (WE E) → CSs (cxD P w K mg base N x (defScope st) f cdv A outer s H E) (WE E) (defBody st) c)
    (hl : ∀ ds hc Q E, sp ds hc Q E → ds.length = ps.length) (hp : ∀ ds hc (Q : D → CH → Prop) E, sp ds hc Q E → c { nx := fun _ hc' => Q .non hc', rt := Q, xp := fun x _ hc' => E x hc' } (startC N ds) hc)
    (hbi : ∀ (kV doc pm : Value) (an : Option Addr) (cdv ct : Value) (us : List Value), us.length = ps.length → bindArgs (PySem.W.fnOf x x (defArgs st) (defBody st) (defScope st) .none kV doc pm an cdv ct) ⟨us, []⟩ = pure (ps.zip us)) : FnAt P w K mg base (k + 1) al ps sp := by
  obtain ⟨f, fd, F, hm⟩ := F
  refine ⟨f, fd, fn_ok F S (hb f) hl hp, hm, F.kp, F.bindsN hbi, ?_⟩
  obtain ⟨oc, od, dV, kV, doc, pm, an, cdv, ct, osl, e, lk, _⟩ := F.ex
  exact ⟨oc, od, osl, lk⟩
theorem fnH_atA {P : Program} {w : World} {K : PySem.W.Frag} {mg : Str → Option Value} {base : Heap} {al x : Str} {st : Stmt} {N ps : List Str} {kc k : Nat} {sp : CloR → Spc} {c : CloR → CSx} (F : DefA K mg al x st) (S : FnScope N ps (defScope st))
    (hb : ∀ (Γ : CloR) (f : Addr) (cdv : Value) (A : Around) (outer : List Env) (s : Shared) (H : Hp) (E : XK), RT k (cxD P w K mg base N x (defScope st) f cdv A outer s H E) (WE E) → (∀ f ws φ, Γ f ws φ → Clo P w K mg base kc H f ws φ) → CSs (cxD P w K mg base N x (defScope st) f cdv A outer s H E) (WE E) (defBody st) (c Γ))
    (hl : ∀ Γ ds hc Q E, sp Γ ds hc Q E → ds.length = ps.length) (hp : ∀ Γ ds hc (Q : D → CH → Prop) E, sp Γ ds hc Q E → c Γ { nx := fun _ hc' => Q .non hc', rt := Q, xp := fun x _ hc' => E x hc' } (startC N ds) hc)
    (hbi : ∀ (kV doc pm : Value) (an : Option Addr) (cdv ct : Value) (us : List Value), us.length = ps.length → bindArgs (PySem.W.fnOf x x (defArgs st) (defBody st) (defScope st) .none kV doc pm an cdv ct) ⟨us, []⟩ = pure (ps.zip us)) : FnAtH P w K mg base kc (k + 1) al ps sp := by
  obtain ⟨f, fd, F, hm⟩ := F
  refine ⟨f, fd, fun Γ => ?_, hm, F.kp, F.bindsN hbi⟩
  obtain ⟨oc, od, dV, kV, doc, pm, an, cdv, ct, osl, rfl, lk, hcd, _, _⟩ := F.ex
  refine fnG_of lk hcd S (fun vs H Q E ⟨_, hc, m, ds, P', PE, w', rl, h, _⟩ => by rw [← rl.length]; exact hl Γ ds hc _ _ h) fun A outer s H vs Q E hr ⟨hΓ, hc, m, ds, P', PE, w', rl, h, f1, f2⟩ => ⟨_, (hb Γ f cdv A outer s H E (rt_of hr) hΓ).p, ?_⟩
  exact ⟨_, _, hc, m, _, start_rs w' rl, hp Γ ds hc P' PE h, end_of f1 f2⟩
theorem lamN_ofA {K : PySem.W.Frag} {mg : Str → Option Value} {base : Heap} {al x : Str} {f : Addr} {oc : Value} {od : Option Addr} {osl : Array (Option Value)} {params : Arguments} {body : List Stmt} {scope : Scope} {dV kV doc pm cdv ct : Value} {an : Option Addr} (l : LamN K mg al) (B : BaseT K mg base) (KX : K.In base)
    (lk : K.lookup f = some ⟨oc, od, .func (PySem.W.fnOf x x params body scope dV kV doc pm an cdv ct), osl⟩) (hm : mg al = some (.ref f)) (hcd : PySem.W.codeIn K cdv x = true) : ∃ c P, cdv = .ref c ∧ (P, x ++ ".<locals>." ++ "<lambda>") ∈ tabsL K ∧ LamX.TabB base mg c P := by
  obtain ⟨c, rfl⟩ := He.codeIn_ref hcd
  have ef : f = He.ga K al := by
    have e := l.2
    rw [hm] at e; cases e; rfl
  have lk2 : K.lookup (He.fAd K (al, none)) = some ⟨oc, od, .func (PySem.W.fnOf x x params body scope dV kV doc pm an (.ref c) ct), osl⟩ := by
    rw [← lk, ef]
    rfl
  have ec := He.codeOf_eq lk2 rfl
  have hc := l.1
  unfold lamN at hc
  rw [ec] at hc
  have mem : (He.tabOf K c, x ++ ".<locals>." ++ "<lambda>") ∈ tabsL K := by
    refine List.mem_filterMap.mpr ⟨(f, ⟨oc, od, .func (PySem.W.fnOf x x params body scope dV kV doc pm an (.ref c) ct), osl⟩), He.lookup_mem lk, ?_⟩
    show (if PySem.W.codeHdIn K c (He.tabOf K c) = true then some (He.tabOf K c, x ++ ".<locals>." ++ "<lambda>") else none) = _
    rw [if_pos hc]
  have hb := B (He.tabOf K c) (List.mem_map.mpr ⟨_, mem, rfl⟩)
  exact ⟨c, _, rfl, mem, PySem.W.codeHd_of_K KX hc, hb.1, hb.2⟩
theorem fnL_atA {P : Program} {w : World} {K : PySem.W.Frag} {mg : Str → Option Value} {base : Heap} {al x : Str} {st : Stmt} {N ps : List Str} {k : Nat} {sp : Spc} {c : CSx} (F : DefA K mg al x st) (l : LamN K mg al) (B : BaseT K mg base) (KX : K.In base) (S : FnScope N ps (defScope st))
    (hb : ∀ (f : Addr) (cdv : Value) (A : Around) (outer : List Env) (s : Shared) (H : Hp) (E : XK), RT k (cxD P w K mg base N x (defScope st) f cdv A outer s H E) (WE E) → (∃ cc Pt, cdv = .ref cc ∧ (Pt, x ++ ".<locals>." ++ "<lambda>") ∈ tabsL K ∧ LamX.TabB base mg cc Pt) → CSs (cxD P w K mg base N x (defScope st) f cdv A outer s H E) (WE E) (defBody st) c)
    (hl : ∀ ds hc Q E, sp ds hc Q E → ds.length = ps.length) (hp : ∀ ds hc (Q : D → CH → Prop) E, sp ds hc Q E → c { nx := fun _ hc' => Q .non hc', rt := Q, xp := fun x _ hc' => E x hc' } (startC N ds) hc)
    (hbi : ∀ (kV doc pm : Value) (an : Option Addr) (cdv ct : Value) (us : List Value), us.length = ps.length → bindArgs (PySem.W.fnOf x x (defArgs st) (defBody st) (defScope st) .none kV doc pm an cdv ct) ⟨us, []⟩ = pure (ps.zip us)) : FnAt P w K mg base (k + 1) al ps sp := by
  obtain ⟨f, fd, F, hm⟩ := F
  obtain ⟨oc, od, dV, kV, doc, pm, an, cdv, ct, osl, rfl, lk, hcd, _, _⟩ := F.ex
  refine ⟨f, _, ?_, hm, F.kp, F.bindsN hbi, oc, od, osl, lk⟩
  have kn := lamN_ofA l B KX lk hm hcd
  exact fnG_of lk hcd S (fun vs H Q E ⟨hc, m, ds, P', PE, w', rl, h, _⟩ => by rw [← rl.length]; exact hl ds hc _ _ h) fun A outer s H vs Q E hr ⟨hc, m, ds, P', PE, w', rl, h, f1, f2⟩ => ⟨_, (hb f cdv A outer s H E (rt_of hr) kn).p, ⟨_, _, hc, m, _, start_rs w' rl, hp ds hc P' PE h, end_of f1 f2⟩⟩
end Mn

namespace Lk10
open PySem L2 Mn

def topS (i : Nat) : Stmt := PySem.Challenge.pw_numbertexts_k10_whole_parted_on_long_ran.main.body.getD i (.Pass ⟨0, 0, 0, 0⟩)

abbrev s__law_deck : Stmt := topS 33
theorem sc__law_deck : FnScope ["_law_script", "_law_cell"] ["_law_script"] (defScope s__law_deck) := ⟨rfl, rfl, rfl, by decide +kernel, rfl, by decide +kernel, by decide +kernel⟩

abbrev s__law_draw : Stmt := topS 34
theorem sc__law_draw : FnScope ["_law_deck_here", "_law_many", "_law_place", "_law_cell", "_law_mixed"] ["_law_deck_here", "_law_many"] (defScope s__law_draw) := ⟨rfl, rfl, rfl, by decide +kernel, rfl, by decide +kernel, by decide +kernel⟩

abbrev s__law_number : Stmt := topS 35
theorem sc__law_number : FnScope ["_law_deck_here", "_law_parts", "_law_found", "_law_k"] ["_law_deck_here", "_law_parts"] (defScope s__law_number) := ⟨rfl, rfl, rfl, by decide +kernel, rfl, by decide +kernel, by decide +kernel⟩

abbrev s__law_line : Stmt := topS 36
theorem sc__law_line : FnScope ["_law_deck_here", "_law_most", "_law_parts", "_law_a", "_law_b", "_law_c", "_law_way"] ["_law_deck_here", "_law_most"] (defScope s__law_line) := ⟨rfl, rfl, rfl, by decide +kernel, rfl, by decide +kernel, by decide +kernel⟩

abbrev s__law_pair : Stmt := topS 38
theorem sc__law_pair : FnScope ["_law_deck_here", "_law_most", "_law_one", "_law_way", "_law_a", "_law_b", "_law_c", "_law_other", "_law_times"] ["_law_deck_here", "_law_most"] (defScope s__law_pair) := ⟨rfl, rfl, rfl, by decide +kernel, rfl, by decide +kernel, by decide +kernel⟩

abbrev s__law_far : Stmt := topS 37
theorem sc__law_far : FnScope ["_law_deck_here", "_law_most", "_law_parts", "_law_low"] ["_law_deck_here", "_law_most"] (defScope s__law_far) := ⟨rfl, rfl, rfl, by decide +kernel, rfl, by decide +kernel, by decide +kernel⟩

abbrev s_difference : Stmt := topS 16
theorem sc_difference : FnScope ["one", "other", "a", "b", "c", "d", "e", "f"] ["one", "other"] (defScope s_difference) := ⟨rfl, rfl, rfl, by decide +kernel, rfl, by decide +kernel, by decide +kernel⟩

abbrev s_first_from : Stmt := topS 17
theorem sc_first_from : FnScope ["line", "least", "low", "high", "a", "b", "c"] ["line", "least", "low", "high"] (defScope s_first_from) := ⟨rfl, rfl, rfl, by decide +kernel, rfl, by decide +kernel, by decide +kernel⟩

abbrev s_parts_of : Stmt := topS 18
theorem sc_parts_of : FnScope ["one", "other", "low", "high", "line", "ends", "pairs", "found", "lower", "upper", "is_far", "begin", "end", "least"] ["one", "other", "low", "high"] (defScope s_parts_of) := ⟨rfl, rfl, rfl, by decide +kernel, rfl, by decide +kernel, by decide +kernel⟩

abbrev s_first_turn : Stmt := topS 10
theorem sc_first_turn : FnScope ["line", "low", "high", "a", "b", "c"] ["line", "low", "high"] (defScope s_first_turn) := ⟨rfl, rfl, rfl, by decide +kernel, rfl, by decide +kernel, by decide +kernel⟩

abbrev s_next_turn : Stmt := topS 11
theorem sc_next_turn : FnScope ["turn", "n", "a", "b", "c", "top"] ["turn"] (defScope s_next_turn) := ⟨rfl, rfl, rfl, by decide +kernel, rfl, by decide +kernel, by decide +kernel⟩

abbrev s_value_at : Stmt := topS 9
theorem sc_value_at : FnScope ["line", "x", "a", "b", "c"] ["line", "x"] (defScope s_value_at) := ⟨rfl, rfl, rfl, by decide +kernel, rfl, by decide +kernel, by decide +kernel⟩

abbrev s_sum_of_turn : Stmt := topS 12
theorem sc_sum_of_turn : FnScope ["turn", "more", "n", "a", "b", "c", "x"] ["turn", "more"] (defScope s_sum_of_turn) := ⟨rfl, rfl, rfl, by decide +kernel, rfl, by decide +kernel, by decide +kernel⟩

abbrev s_sum_rows : Stmt := topS 13
theorem sc_sum_rows : FnScope ["line", "low", "high", "turns", "turn", "rows", "total"] ["line", "low", "high"] (defScope s_sum_rows) := ⟨rfl, rfl, rfl, by decide +kernel, rfl, by decide +kernel, by decide +kernel⟩

abbrev s_sum_of : Stmt := topS 14
theorem sc_sum_of : FnScope ["line", "low", "high"] ["line", "low", "high"] (defScope s_sum_of) := ⟨rfl, rfl, rfl, by decide +kernel, rfl, by decide +kernel, by decide +kernel⟩

abbrev s_count_in : Stmt := topS 19
theorem sc_count_in : FnScope ["part", "end", "lower", "upper", "low", "high", "is_far"] ["part", "end"] (defScope s_count_in) := ⟨rfl, rfl, rfl, by decide +kernel, rfl, by decide +kernel, by decide +kernel⟩

abbrev s_counts_of : Stmt := topS 20
theorem sc_counts_of : FnScope ["one", "other", "low", "high", "part"] ["one", "other", "low", "high"] (defScope s_counts_of) := ⟨rfl, rfl, rfl, by decide +kernel, rfl, by decide +kernel, by decide +kernel⟩

abbrev s_count_parted : Stmt := topS 24
theorem sc_count_parted : FnScope ["one", "other", "low", "high", "part", "many"] ["one", "other", "low", "high"] (defScope s_count_parted) := ⟨rfl, rfl, rfl, by decide +kernel, rfl, by decide +kernel, by decide +kernel⟩

abbrev s_is_whole : Stmt := topS 1
theorem sc_is_whole : FnScope ["value"] ["value"] (defScope s_is_whole) := ⟨rfl, rfl, rfl, by decide +kernel, rfl, by decide +kernel, by decide +kernel⟩

abbrev s_is_between : Stmt := topS 2
theorem sc_is_between : FnScope ["value", "low", "high"] ["value", "low", "high"] (defScope s_is_between) := ⟨rfl, rfl, rfl, by decide +kernel, rfl, by decide +kernel, by decide +kernel⟩

abbrev s_place_of : Stmt := topS 6
theorem sc_place_of : FnScope ["count", "low", "high", "index", "middle"] ["count", "low", "high", "index"] (defScope s_place_of) := ⟨rfl, rfl, rfl, by decide +kernel, rfl, by decide +kernel, by decide +kernel⟩

abbrev s_place_in_parted : Stmt := topS 21
theorem sc_place_in_parted : FnScope ["part", "index"] ["part", "index"] (defScope s_place_in_parted) := ⟨rfl, rfl, rfl, by decide +kernel, rfl, by decide +kernel, by decide +kernel⟩

abbrev s_parted_at : Stmt := topS 25
theorem sc_parted_at : FnScope ["one", "other", "low", "high", "index", "rows", "part", "many"] ["one", "other", "low", "high", "index"] (defScope s_parted_at) := ⟨rfl, rfl, rfl, by decide +kernel, rfl, by decide +kernel, by decide +kernel⟩

abbrev s__law_place_right : Stmt := topS 40
theorem sc__law_place_right : FnScope ["_law_one", "_law_other", "_law_low", "_law_high", "_law_index", "_law_x"] ["_law_one", "_law_other", "_law_low", "_law_high", "_law_index"] (defScope s__law_place_right) := ⟨rfl, rfl, rfl, by decide +kernel, rfl, by decide +kernel, by decide +kernel⟩

abbrev s_first_parted : Stmt := topS 23
theorem sc_first_parted : FnScope ["one", "other", "low", "high", "part", "many"] ["one", "other", "low", "high"] (defScope s_first_parted) := ⟨rfl, rfl, rfl, by decide +kernel, rfl, by decide +kernel, by decide +kernel⟩

abbrev s__law_index_fails : Stmt := topS 39
theorem sc__law_index_fails : FnScope ["_law_call", "_law_index", "error", "_law_is_right"] ["_law_call", "_law_index"] (defScope s__law_index_fails) := ⟨rfl, rfl, rfl, by decide +kernel, rfl, by decide +kernel, by decide +kernel⟩

abbrev s__law_pair_right : Stmt := topS 41
theorem sc__law_pair_right : FnScope ["_law_one", "_law_other", "_law_low", "_law_high", "_law_many", "_law_middle", "_law_indexes", "_law_index"] ["_law_one", "_law_other", "_law_low", "_law_high"] (defScope s__law_pair_right) := ⟨rfl, rfl, rfl, by decide +kernel, rfl, by decide +kernel, by decide +kernel⟩

abbrev s_lines_of : Stmt := topS 27
theorem sc_lines_of : FnScope ["line", "window", "a", "b", "c", "least", "greatest"] ["line", "window"] (defScope s_lines_of) := ⟨rfl, rfl, rfl, by decide +kernel, rfl, by decide +kernel, by decide +kernel⟩

abbrev s_count_hits : Stmt := topS 28
theorem sc_count_hits : FnScope ["line", "window", "low", "high", "upper", "lower"] ["line", "window", "low", "high"] (defScope s_count_hits) := ⟨rfl, rfl, rfl, by decide +kernel, rfl, by decide +kernel, by decide +kernel⟩

abbrev s_place_in_hits : Stmt := topS 29
theorem sc_place_in_hits : FnScope ["line", "window", "low", "high", "index"] ["line", "window", "low", "high", "index"] (defScope s_place_in_hits) := ⟨rfl, rfl, rfl, by decide +kernel, rfl, by decide +kernel, by decide +kernel⟩

abbrev s_first_hit : Stmt := topS 31
theorem sc_first_hit : FnScope ["line", "window", "low", "high"] ["line", "window", "low", "high"] (defScope s_first_hit) := ⟨rfl, rfl, rfl, by decide +kernel, rfl, by decide +kernel, by decide +kernel⟩

abbrev s__law_near_right : Stmt := topS 42
theorem sc__law_near_right : FnScope ["_law_deck_here", "_law_line_here", "_law_low", "_law_high", "_law_a", "_law_b", "_law_c", "_law_more", "_law_window", "_law_other", "_law_times"] ["_law_deck_here", "_law_line_here", "_law_low", "_law_high"] (defScope s__law_near_right) := ⟨rfl, rfl, rfl, by decide +kernel, rfl, by decide +kernel, by decide +kernel⟩

abbrev s__law_widest_right : Stmt := topS 43
theorem sc__law_widest_right : FnScope ["_law_deck_here", "_law_one", "_law_other", "_law_most", "_law_many"] ["_law_deck_here"] (defScope s__law_widest_right) := ⟨rfl, rfl, rfl, by decide +kernel, rfl, by decide +kernel, by decide +kernel⟩

abbrev s_law : Stmt := topS 44
theorem sc_law : FnScope ["_law_script", "_law_deck_here", "_law_turn", "_law_one", "_law_other", "_law_low", "_law_high"] ["_law_script"] (defScope s_law) := ⟨rfl, rfl, rfl, by decide +kernel, rfl, by decide +kernel, by decide +kernel⟩

abbrev fvL : List Str := []

abbrev mf : Str := PySem.Challenge.pw_numbertexts_k10_whole_parted_on_long_ran.main.file

abbrev ini_NoIndex : IniD := ⟨"NoIndex", false, "index", "index", clsInit (topS 4)⟩
theorem t_NoIndex : IniT ini_NoIndex := ⟨⟨_, _, _, _, _, _, _, _, _, _, by decide +kernel, rfl⟩, fun _ _ _ _ _ _ _ _ _ _ => rfl, ⟨_, rfl, rfl⟩, ⟨by decide, by decide⟩, rfl, rfl, rfl, rfl, rfl, rfl, rfl, by decide +kernel⟩

structure Txt (K : PySem.W.Frag) (mg : Str → Option Value) : Prop where
  d__law_deck : DefAt K mg "_law_deck" s__law_deck
  d__law_draw : DefAt K mg "_law_draw" s__law_draw
  d__law_number : DefAt K mg "_law_number" s__law_number
  d__law_line : DefAt K mg "_law_line" s__law_line
  d__law_pair : DefAt K mg "_law_pair" s__law_pair
  d__law_far : DefAt K mg "_law_far" s__law_far
  d_difference : DefAt K mg "difference" s_difference
  d_first_from : DefAt K mg "first_from" s_first_from
  d_parts_of : DefAt K mg "parts_of" s_parts_of
  d_first_turn : DefAt K mg "first_turn" s_first_turn
  d_next_turn : DefAt K mg "next_turn" s_next_turn
  d_value_at : DefAt K mg "value_at" s_value_at
  d_sum_of_turn : DefAt K mg "sum_of_turn" s_sum_of_turn
  d_sum_rows : DefAt K mg "sum_rows" s_sum_rows
  d_sum_of : DefAt K mg "sum_of" s_sum_of
  d_count_in : DefAt K mg "count_in" s_count_in
  d_counts_of : DefAt K mg "counts_of" s_counts_of
  d_count_parted : DefAt K mg "count_parted" s_count_parted
  d_is_whole : DefAt K mg "is_whole" s_is_whole
  d_is_between : DefAt K mg "is_between" s_is_between
  d_place_of : DefAt K mg "place_of" s_place_of
  d_place_in_parted : DefA K mg "place_in_parted" "place_in" s_place_in_parted
  d_parted_at : DefAt K mg "parted_at" s_parted_at
  d__law_place_right : DefAt K mg "_law_place_right" s__law_place_right
  d_first_parted : DefAt K mg "first_parted" s_first_parted
  d__law_index_fails : DefAt K mg "_law_index_fails" s__law_index_fails
  d__law_pair_right : DefAt K mg "_law_pair_right" s__law_pair_right
  d_lines_of : DefAt K mg "lines_of" s_lines_of
  d_count_hits : DefAt K mg "count_hits" s_count_hits
  d_place_in_hits : DefA K mg "place_in_hits" "place_in" s_place_in_hits
  d_first_hit : DefAt K mg "first_hit" s_first_hit
  d__law_near_right : DefAt K mg "_law_near_right" s__law_near_right
  d__law_widest_right : DefAt K mg "_law_widest_right" s__law_widest_right
  d_law : DefAt K mg "law" s_law
  l_place_in_parted : LamN K mg "place_in_parted"
  l__law_pair_right : LamN K mg "_law_pair_right"
  l_place_in_hits : LamN K mg "place_in_hits"
  tnd : (tabA K).Nodup
  n_LookupError : mg "LookupError" = none
  n_ValueError : mg "ValueError" = none
  n_abs : mg "abs" = none
  n_bool : mg "bool" = none
  n_int : mg "int" = none
  n_isinstance : mg "isinstance" = none
  n_len : mg "len" = none
  n_max : mg "max" = none
  n_min : mg "min" = none
  n_range : mg "range" = none
  n_repr : mg "repr" = none
  n_sum : mg "sum" = none
  n_super : mg "super" = none
  n_tuple : mg "tuple" = none
  n_zip : mg "zip" = none
  k_SMALL : GlobC K mg "SMALL" (.int 4)
  lim : statK K = true
  x_NoIndex : OwnC K mg "NoIndex" "index" "index" mf
  e_NoIndex_NoIndex : ExmC K mg "NoIndex" "NoIndex" true
  g_NoIndex : ∃ C, mg "NoIndex" = some (.ref C)
  j_NoIndex_LookupError : IsK K mg "NoIndex" (.type "LookupError") true
  j_NoIndex_ValueError : IsK K mg "NoIndex" (.type "ValueError") false
  fv : FvOk K fvL

variable {P : Program} {w : World} {K : PySem.W.Frag} {mg : Str → Option Value} {base : Heap}

local macro_rules | `(tactic| walk_at "n") => `(tactic| try simp -implicitDefEqProofs only [e_V, e_C, e_FnV, o_inF, e_Raise, e_Xf, e_Ch, e_AndV, e_OrV, e_NotV, e_O, e_Op, e_Un, e_Fn, e_Call, e_Nil, e_Cons, e_Tup, e_Lst, e_NoP, e_SoP, e_Sl, e_T, e_And, e_Or, e_Not, e_If, e_gN, e_Asg, e_Ret, e_RetN, e_Next, e_IfS, e_For, e_It, e_R1, e_R2, e_Drop, e_Par, e_Par3, e_App, e_SetO, e_Give, look_0, look_s, lookO_0, lookO_s, List.set_cons_zero, List.set_cons_succ, startC, List.map_cons, List.map_nil, List.cons_append, List.nil_append, List.length_cons, List.length_nil, List.replicate_zero, List.replicate_succ, List.append_nil, Nat.reduceAdd, Nat.reduceSub, if_true, Bool.false_eq_true, if_false, Bool.not_true, Bool.not_false, decide_true, decide_false, o_addI, o_addS, o_addL, o_addT, o_addR, o_addR', o_sub, o_mul, o_mulL, o_fdiv, o_mod, o_pow, o_shl, o_shr, o_and, o_or, o_neg, o_eqI, o_eqS, o_neI, o_neS, o_lt, o_le, o_gt, o_ge, o_ixL, o_ixT, o_ixR, o_abs, o_int, o_max, o_min, o_lenL, o_lenT, o_lenF, o_lenR, o_slL, o_slT, o_slF, at_0, at_1, at_2, at_3, at_4, o_rev, o_tupF, o_tupF2, o_lstF, o_lstF2, o_repr, e_gNil, o_intB, o_str, o_mulT, o_reprR, o_tupR, e_LstM, o_slR, e_gSubO, o_revBL, o_revBT, o_isN5, o_isN6, o_isN7, o_notN5, o_notN6, o_notN7, o_lenS, o_strS, o_isB, o_notB, o_isi1, o_isi2, o_isi3, o_isi4, o_isi5, o_isi6, o_isi7, o_isi8, ty_int_N, ty_int_B, ty_int_I, ty_int_S, ty_int_T, ty_int_L, ty_int_D, ty_bool_N, ty_bool_B, ty_bool_I, ty_bool_S, ty_bool_T, ty_bool_L, ty_bool_D, ty_str_N, ty_str_B, ty_str_I, ty_str_S, ty_str_T, ty_str_L, ty_str_D, ty_tuple_N, ty_tuple_B, ty_tuple_I, ty_tuple_S, ty_tuple_T, ty_tuple_L, ty_tuple_D, ty_list_N, ty_list_B, ty_list_I, ty_list_S, ty_list_T, ty_list_L, ty_list_D, ty_dict_N, ty_dict_B, ty_dict_I, ty_dict_S, ty_dict_T, ty_dict_L, ty_dict_D, o_catL, e_SetF, e_gCons, e_gUnT, e_gUnL, e_gTup, true_and, e_ParO, e_Star, wipe_0, wipe_s, o_bits, o_divmod, o_inL, o_inT, o_ninL, o_ninT, o_isN1, o_isN2, o_isN3, o_isN4, o_notN1, o_notN2, o_notN3, o_notN4, e_Match, e_arm0, e_arm1, e_arm2, e_Zip, o_zip, e_Ext, e_ParO2, e_ParN, e_R3P, e_IsX, e_Zip3, o_zip3, e_LRg1, e_LRg2, e_Rs, e_R3, e_Enum, o_enL, o_all1, e_ItS, e_EnumS, o_enS, e_Jn, e_IxS, o_iT1, o_iT2, o_iT3, o_iT4, o_mT, o_xS, o_xT, o_xL, o_enT, e_SrtS, e_LamC, e_CallD, e_CallK, e_CallV])
local macro_rules | `(tactic| walk_at "x") => `(tactic| try simp -implicitDefEqProofs only [e_V, e_C, e_FnV, o_inF, e_Raise, e_Xf, e_Ch, e_AndV, e_OrV, e_NotV, e_O, e_Op, e_Un, e_Fn, e_Call, e_Nil, e_Cons, e_Tup, e_Lst, e_NoP, e_SoP, e_Sl, e_T, e_And, e_Or, e_Not, e_If, e_gN, e_Asg, e_Ret, e_RetN, e_Next, e_IfS, e_For, e_It, e_R1, e_R2, e_Drop, e_Par, e_Par3, e_App, e_SetO, e_Give, look_0, look_s, lookO_0, lookO_s, List.set_cons_zero, List.set_cons_succ, startC, List.map_cons, List.map_nil, List.cons_append, List.nil_append, List.length_cons, List.length_nil, List.replicate_zero, List.replicate_succ, List.append_nil, Nat.reduceAdd, Nat.reduceSub, if_true, Bool.false_eq_true, if_false, Bool.not_true, Bool.not_false, decide_true, decide_false, o_addI, o_addS, o_addL, o_addT, o_addR, o_addR', o_sub, o_mul, o_mulL, o_fdiv, o_mod, o_pow, o_shl, o_shr, o_and, o_or, o_neg, o_eqI, o_eqS, o_neI, o_neS, o_lt, o_le, o_gt, o_ge, o_ixL, o_ixT, o_ixR, o_abs, o_int, o_max, o_min, o_lenL, o_lenT, o_lenF, o_lenR, o_slL, o_slT, o_slF, at_0, at_1, at_2, at_3, at_4, o_rev, o_tupF, o_tupF2, o_lstF, o_lstF2, o_repr, e_gNil, o_intB, o_str, o_mulT, o_reprR, o_tupR, e_LstM, o_slR, e_gSubO, o_revBL, o_revBT, o_isN5, o_isN6, o_isN7, o_notN5, o_notN6, o_notN7, o_lenS, o_strS, o_isB, o_notB, o_isi1, o_isi2, o_isi3, o_isi4, o_isi5, o_isi6, o_isi7, o_isi8, ty_int_N, ty_int_B, ty_int_I, ty_int_S, ty_int_T, ty_int_L, ty_int_D, ty_bool_N, ty_bool_B, ty_bool_I, ty_bool_S, ty_bool_T, ty_bool_L, ty_bool_D, ty_str_N, ty_str_B, ty_str_I, ty_str_S, ty_str_T, ty_str_L, ty_str_D, ty_tuple_N, ty_tuple_B, ty_tuple_I, ty_tuple_S, ty_tuple_T, ty_tuple_L, ty_tuple_D, ty_list_N, ty_list_B, ty_list_I, ty_list_S, ty_list_T, ty_list_L, ty_list_D, ty_dict_N, ty_dict_B, ty_dict_I, ty_dict_S, ty_dict_T, ty_dict_L, ty_dict_D, o_catL, e_SetF, e_gCons, e_gUnT, e_gUnL, e_gTup, true_and, e_ParO, e_Star, wipe_0, wipe_s, o_bits, o_divmod, o_inL, o_inT, o_ninL, o_ninT, o_isN1, o_isN2, o_isN3, o_isN4, o_notN1, o_notN2, o_notN3, o_notN4, e_Match, e_arm0, e_arm1, e_arm2, e_Zip, o_zip, e_Ext, e_ParO2, e_ParN, e_R3P, e_IsX, e_Zip3, o_zip3, e_LRg1, e_LRg2, e_Rs, e_R3, e_Enum, o_enL, o_all1, e_ItS, e_EnumS, o_enS, e_Jn, e_IxS, o_iT1, o_iT2, o_iT3, o_iT4, o_mT, o_xS, o_xT, o_xL, o_enT, e_SrtS, e_LamC, e_CallD, e_CallK, e_CallV])
local macro_rules | `(tactic| walk_at "b") => `(tactic| simp -implicitDefEqProofs only [e_gN, e_gUnT, e_gUnL, e_gTup, e_gCons, e_gNil, List.set_cons_zero, List.set_cons_succ, List.length_cons, List.length_nil, Nat.reduceAdd, true_and])
local macro_rules | `(tactic| walk_at "l") => `(tactic| first | exact Nat.zero_lt_succ _ | exact Nat.le_of_ble_eq_true rfl | simp)

abbrev N__law_deck : List Str := ["_law_script", "_law_cell"]
def c__law_deck : CSx :=
  (cRet (cLstM (cCons (cLcM (cIt (cSl (cV 0) cNoP (cSoP (cC (.int 63))))) (gN 1) cYes (cFn absD (cCons (cV 1) cNil)) [1]) (cCons (cC (.int 0)) cNil))))

/-! ### the deck -/
/-- r is the deck, q its cells, at most N draws so far; all else is as in b -/
def Dk (b : CH) (r q : Addr) (N : Nat) (hc : CH) : Prop := r ≠ q ∧ (∃ (cells : List Int) (n : Int), hc r = some [.ref q, .int n] ∧ hc q = some (cells.map D.int) ∧ (∀ c ∈ cells, 0 ≤ c) ∧ cells.length ≤ 63 ∧ 0 ≤ n ∧ n ≤ N) ∧ ∀ a, a ≠ r → a ≠ q → hc a = b a
theorem Dk.mono {b : CH} {r q : Addr} {N M : Nat} {hc : CH} (h : Dk b r q N hc) (l : N ≤ M) : Dk b r q M hc := by
  obtain ⟨h1, ⟨cells, n, h2, h3, h4, h5, h6, h7⟩, h8⟩ := h
  exact ⟨h1, ⟨cells, n, h2, h3, h4, h5, h6, by omega⟩, h8⟩
theorem le18 {x : Int} (h : x ≤ 1000000000000000000) : x ≤ 10 ^ 18 := by
  have e : (10 : Int) ^ 18 = 1000000000000000000 := by decide
  omega


def sp__law_deck : Spc := fun ds hc Q _ => ∃ ns : List Int, ds = [.frz (ns.map D.int)] ∧ ns.length ≤ 63 ∧ ∀ r q hc', Dk hc r q 0 hc' → Q (.ref r) hc'
theorem len__law_deck {ds : List D} {hc : CH} {Q E} (h : sp__law_deck ds hc Q E) : ds.length = 1 := by
  obtain ⟨ns, rfl, _⟩ := h
  rfl
theorem cut63 {α : Type} (xs : List α) (h : xs.length ≤ 63) : cutX xs none (some 63) = xs := by
  unfold cutX
  rw [show HT.sIx xs.length 0 none = 0 from rfl, show HT.sIx xs.length xs.length (some 63) = min 63 xs.length from HT.sIx_nat _ _ 63]
  rw [Nat.sub_zero, List.drop_zero, Nat.min_eq_right h, List.take_length]
theorem pure__law_deck {ds : List D} {hc : CH} {Q : D → CH → Prop} {E} (h : sp__law_deck ds hc Q E) : c__law_deck { nx := fun _ hc' => Q .non hc', rt := Q, xp := fun x _ hc' => E x hc' } (startC N__law_deck ds) hc := by
  obtain ⟨ns, rfl, hl, q⟩ := h
  have hcut : cutX (ns.map D.int) none (some 63) = ns.map D.int := cut63 _ (by rw [List.length_map]; exact hl)
  show (cutX (ns.map D.int) none (some 63)).length ≤ sizeLine ∧ _
  rw [hcut]
  refine ⟨by rw [List.length_map]; exact Nat.le_trans hl (by decide), ?_⟩
  refine lc_map (fun d => match d with | .int i => .int (if i < 0 then -i else i) | d => d) (fun d hd Nx k => ?_) ?_
  · obtain ⟨n, _, rfl⟩ := List.mem_map.mp hd
    exact k
  · rw [List.map_map]
    intro p hp
    refine ⟨by show 2 ≤ sizeLine; decide, fun r hr => ?_⟩
    have hrp : r ≠ p := fun e => by
      rw [e, updc_same] at hr; cases hr
    refine q r p _ ⟨hrp, ⟨ns.map fun i => if i < 0 then -i else i, 0, updc_same, ?_, ?_, by rw [List.length_map]; exact hl, Int.le_refl _, Int.le_refl _⟩, fun a h1 h2 => ?_⟩
    · rw [updc_ne (Ne.symm hrp), updc_same, List.map_map]
      rfl
    · intro c hc'
      obtain ⟨n, _, rfl⟩ := List.mem_map.mp hc'
      split <;> omega
    · rw [updc_ne h1, updc_ne h2]


theorem at__law_deck (T : Txt K mg) (B : BaseT K mg base) (KX : K.In base) (PS : Sup P mf)  : FnAt P w K mg base 1 "_law_deck" ["_law_script"] sp__law_deck :=
  fn_at (c := c__law_deck) T.d__law_deck sc__law_deck (fun f cdv A outer s H E hr => by
    have nd := sc__law_deck.nd
    exact (css_one (cs_ret (CE.bo (ce_lstM (ca_cons (ce_lcM rfl nd (own := [("_law_cell", 1)]) (ci_e (ce_sl (CE.bo (ce_v 0)) co_none (co_some ce_i))) (blkOk_by (N := ["_law_script", "_law_cell"]) (sc := defScope s__law_deck) (own := [("_law_cell", 1)]) (by decide +kernel)) (fun _ _ _ _ _ => (cgk_n 1 nd)) (fun _ _ _ _ _ => cts_nil) (fun _ _ _ _ _ => (ce_bf bf_abs T.n_abs (cba_cons (CE.bo (ce_v 1)) cba_nil)))) (ca_cons ce_i ca_nil)))))))
    (fun ds hc Q E h => len__law_deck h) (fun ds hc Q E h => pure__law_deck h) (fun _ _ _ _ _ _ us hl => match us, hl with | [_], _ => rfl)

abbrev N__law_draw : List Str := ["_law_deck_here", "_law_many", "_law_place", "_law_cell", "_law_mixed"]
def c__law_draw : CSx :=
  (cSeq (cAsg (cOp addD (cOp ixD (cV 0) (cC (.int 1))) (cC (.int 1))) (gSub' (cV 0) (cC (.int 1))))
    (cSeq (cAsg (cOp modD (cFn intFD (cCons (cOp ixD (cV 0) (cC (.int 1))) cNil)) (cFn maxD2 (cCons (cC (.int 1)) (cCons (cFn lenD (cCons (cOp ixD (cV 0) (cC (.int 0))) cNil)) cNil)))) (gN 2))
    (cSeq (cAsg (cOp ixD (cOp addD (cOp ixD (cV 0) (cC (.int 0))) (cLst (cCons (cC (.int 0)) cNil))) (cV 2)) (gN 3))
    (cSeq (cIfS (cT (cOp geD (cV 3) (cOp powD (cC (.int 10)) (cC (.int 18)))))
    (cSeq (cAsg (cOp fdivD (cV 3) (cV 1)) (gSub' (cOp ixD (cV 0) (cC (.int 0))) (cV 2)))
    (cRet (cOp modD (cFn intFD (cCons (cV 3) cNil)) (cV 1))))
    cNext)
    (cSeq (cAsg (cOp powD (cOp addD (cOp addD (cOp modD (cFn intFD (cCons (cV 3) cNil)) (cC (.int 2147483587))) (cOp mulD (cC (.int 7919)) (cOp ixD (cV 0) (cC (.int 1))))) (cC (.int 1))) (cC (.int 5))) (gN 4))
    (cRet (cOp modD (cFn intFD (cCons (cOp modD (cFn intFD (cCons (cV 4) cNil)) (cC (.int 2147483647))) cNil)) (cV 1))))))))

def sp__law_draw : Spc := fun ds hc Q _ => ∃ b r q N many, ds = [.ref r, .int many] ∧ Dk b r q N hc ∧ N < 1000000 ∧ 0 < many ∧ many ≤ 10 ^ 18 ∧ ∀ k hc', 0 ≤ k → k < many → Dk b r q (N + 1) hc' → Q (.int k) hc'
theorem len__law_draw {ds : List D} {hc : CH} {Q E} (h : sp__law_draw ds hc Q E) : ds.length = 2 := by
  obtain ⟨b, r, q, N, many, rfl, _⟩ := h
  rfl
theorem many_ok {many : Int} (h0 : 0 < many) (h1 : many ≤ 10 ^ 18) (c : Int) : DivOk c many := divOk 64 h0 (by
  have e : (10 : Int) ^ 18 = 1000000000000000000 := by decide
  have e2 : (2 : Nat) ^ 64 = 18446744073709551616 := by decide
  omega) (by decide)
theorem pure__law_draw {ds : List D} {hc : CH} {Q : D → CH → Prop} {E} (h : sp__law_draw ds hc Q E) : c__law_draw { nx := fun _ hc' => Q .non hc', rt := Q, xp := fun x _ hc' => E x hc' } (startC N__law_draw ds) hc := by
  obtain ⟨b, r, q, N, many, rfl, ⟨hrq, ⟨cells, n, hr, hq, hnn, hlen, n0, n1⟩, fr⟩, hN, m0, m1, k⟩ := h
  unfold c__law_draw N__law_draw
  refine seq_step fun M hM => ?_
  walk_at "n"
  refine oth_some hr ?_
  walk_at "n"
  refine oth_some hr (oth_some (x := 1) rfl (hM _ _ ?_))
  have hr1 : updc hc r ([D.ref q, D.int n].set 1 (D.int (n + 1))) r = some [.ref q, .int (n + 1)] := updc_same
  have hq1 : updc hc r ([D.ref q, D.int n].set 1 (D.int (n + 1))) q = some (cells.map D.int) := by rw [updc_ne (Ne.symm hrq)]; exact hq
  have fr1 : ∀ a, a ≠ r → a ≠ q → updc hc r ([D.ref q, D.int n].set 1 (D.int (n + 1))) a = b a := fun a h1 h2 => by rw [updc_ne h1]; exact fr a h1 h2
  have dk1 : Dk b r q (N + 1) (updc hc r ([D.ref q, D.int n].set 1 (D.int (n + 1)))) := ⟨hrq, ⟨cells, n + 1, hr1, hq1, hnn, hlen, by omega, by omega⟩, fr1⟩
  revert hr1 hq1 fr1 dk1
  generalize updc hc r ([D.ref q, D.int n].set 1 (D.int (n + 1))) = hc1
  intro hr1 hq1 fr1 dk1
  refine seq_step fun M hM => ?_
  walk_at "n"
  refine oth_some hr1 ?_
  walk_at "n"
  refine oth_some hr1 ?_
  walk_at "n"
  refine oth_some hq1 ?_
  walk_at "n"
  rw [List.length_map]
  have ml : (0 : Int) < (if (cells.length : Int) > 1 then (cells.length : Int) else 1) := by split <;> omega
  refine ⟨ml, ?_⟩
  have p0 := Int.emod_nonneg (n + 1) (show (if (cells.length : Int) > 1 then (cells.length : Int) else 1) ≠ 0 by omega)
  have p1 : (n + 1) % (if (cells.length : Int) > 1 then (cells.length : Int) else 1) < (cells.length : Int) + 1 := Int.lt_of_lt_of_le (Int.emod_lt_of_pos _ ml) (by split <;> omega)
  revert p0 p1
  generalize (n + 1) % (if (cells.length : Int) > 1 then (cells.length : Int) else 1) = pl
  intro p0 p1
  refine hM _ _ ?_
  refine seq_step fun M hM => ?_
  walk_at "n"
  refine oth_some hr1 ?_
  walk_at "n"
  refine ⟨by decide, ?_⟩
  refine oth_some hq1 ⟨by rw [List.length_map, sizeLine_eq]; omega, ?_⟩
  refine atD_all p0 (by rw [List.length_append, List.length_map, List.length_singleton]; omega) fun j d ej ed => ?_
  refine hM _ _ ?_
  have hd : ∃ c, d = .int c ∧ 0 ≤ c ∧ (10 ^ 18 ≤ c → j < cells.length) := by
    by_cases hj : j < cells.length
    · rw [List.getElem?_append_left (by rw [List.length_map]; exact hj), List.getElem?_map] at ed
      cases e : cells[j]? with
      | none => rw [e] at ed; cases ed
      | some c =>
        rw [e] at ed; cases ed
        exact ⟨c, rfl, hnn c (List.mem_of_getElem? e), fun _ => hj⟩
    · rw [List.getElem?_append_right (by rw [List.length_map]; omega), List.length_map] at ed
      have : j - cells.length = 0 := by omega
      rw [this] at ed
      cases ed
      exact ⟨0, rfl, Int.le_refl _, fun z => absurd z (by decide)⟩
  obtain ⟨c, rfl, c0, hc10⟩ := hd
  have cp : CPow 10 18 := ⟨by decide, by decide, by decide⟩
  refine seq_step fun M hM => ?_
  walk_at "n"
  refine ⟨cp, ?_⟩
  refine ite2 (fun big => ?_) (fun small => ?_)
  · have hj := hc10 (of_decide_eq_true big)
    refine seq_step fun M2 hM2 => ?_
    walk_at "n"
    refine ⟨many_ok m0 m1 c, ?_⟩
    refine oth_some hr1 ?_
    walk_at "n"
    refine oth_some hq1 (oth_some (set_nat p0 (by rw [List.length_map]; omega)) ?_)
    refine hM2 _ _ ?_
    walk_at "n"
    refine ⟨m0, k _ _ (Int.emod_nonneg _ (by omega)) (Int.emod_lt_of_pos _ m0) ?_⟩
    refine ⟨hrq, ⟨cells.set pl.toNat (c / many), n + 1, ?_, ?_, ?_, by rw [List.length_set]; exact hlen, by omega, by omega⟩, fun a h1 h2 => ?_⟩
    · rw [updc_ne hrq]; exact hr1
    · rw [updc_same, List.map_set]
    · intro x hx
      rcases List.mem_or_eq_of_mem_set hx with hx | rfl
      · exact hnn x hx
      · exact Int.ediv_nonneg c0 (by omega)
    · rw [updc_ne h2]; exact fr1 a h1 h2
  · refine hM _ _ ?_
    refine seq_step fun M2 hM2 => ?_
    walk_at "n"
    refine ⟨by decide, ?_⟩
    refine oth_some hr1 ?_
    walk_at "n"
    refine ⟨mulOk_l (by decide), ?_⟩
    have q0 : 0 ≤ c % 2147483587 := Int.emod_nonneg _ (by decide)
    have q1 : c % 2147483587 < 2147483587 := Int.emod_lt_of_pos _ (by decide)
    refine ⟨⟨by decide, by decide, ?_⟩, hM2 _ _ ?_⟩
    · have e2 : (2 : Nat) ^ 64 = 18446744073709551616 := by decide
      rw [e2]
      omega
    · walk_at "n"
      exact ⟨by decide, m0, k _ _ (Int.emod_nonneg _ (by omega)) (Int.emod_lt_of_pos _ m0) dk1⟩


theorem at__law_draw (T : Txt K mg) (B : BaseT K mg base) (KX : K.In base) (PS : Sup P mf)  : FnAt P w K mg base 1 "_law_draw" ["_law_deck_here", "_law_many"] sp__law_draw :=
  fn_at (c := c__law_draw) T.d__law_draw sc__law_draw (fun f cdv A outer s H E hr => by
    have nd := sc__law_draw.nd
    exact (css_cons (cs_asg (ce_op op_addD (CE.bo (ce_ix (CE.bo (ce_v 0)) ce_i)) (CE.bo ce_i)) (cg_s (ce_v 0) ce_i))
    (css_cons (cs_set nd (ce_op op_modD (CE.bo (ce_bt bt_int T.n_int (cba_cons (CE.bo (ce_ix (CE.bo (ce_v 0)) ce_i)) cba_nil))) (CE.bo (ce_bf (bf_max2 rfl) T.n_max (cba_cons (CE.bo ce_i) (cba_cons (CE.bo (ce_bf bf_len T.n_len (cba_cons (CE.bo (ce_ix (CE.bo (ce_v 0)) ce_i)) cba_nil))) cba_nil))))))
    (css_cons (cs_set nd (ce_ix (CE.bo (ce_op op_addD (CE.bo (ce_ix (CE.bo (ce_v 0)) ce_i)) (CE.bo (ce_lst (ca_cons ce_i ca_nil))))) (ce_v 2)))
    (css_cons (cs_if (ct_cmp op_geD (CE.bo (ce_v 3)) (CE.bo (ce_op op_powD (CE.bo ce_i) (CE.bo ce_i))))
    (css_cons (cs_asg (ce_op op_fdivD (CE.bo (ce_v 3)) (CE.bo (ce_v 1))) (cg_s (ce_ix (CE.bo (ce_v 0)) ce_i) (ce_v 2)))
    (css_one (cs_ret (CE.bo (ce_op op_modD (CE.bo (ce_bt bt_int T.n_int (cba_cons (CE.bo (ce_v 3)) cba_nil))) (CE.bo (ce_v 1)))))))
    css_nil)
    (css_cons (cs_set nd (ce_op op_powD (CE.bo (ce_op op_addD (CE.bo (ce_op op_addD (CE.bo (ce_op op_modD (CE.bo (ce_bt bt_int T.n_int (cba_cons (CE.bo (ce_v 3)) cba_nil))) (CE.bo ce_i))) (CE.bo (ce_op op_mulD (CE.bo ce_i) (CE.bo (ce_ix (CE.bo (ce_v 0)) ce_i)))))) (CE.bo ce_i))) (CE.bo ce_i)))
    (css_one (cs_ret (CE.bo (ce_op op_modD (CE.bo (ce_bt bt_int T.n_int (cba_cons (CE.bo (ce_op op_modD (CE.bo (ce_bt bt_int T.n_int (cba_cons (CE.bo (ce_v 4)) cba_nil))) (CE.bo ce_i))) cba_nil))) (CE.bo (ce_v 1))))))))))))
    (fun ds hc Q E h => len__law_draw h) (fun ds hc Q E h => pure__law_draw h) (fun _ _ _ _ _ _ us hl => match us, hl with | [_, _], _ => rfl)

abbrev N__law_number : List Str := ["_law_deck_here", "_law_parts", "_law_found", "_law_k"]
def c__law_number : CSx :=
  (cSeq (cAsg (cCall sp__law_draw (cCons (cV 0) (cCons (cC (.int 12)) cNil))) (gN 2))
    (cSeq (cFor (cR1 (cCons (cV 1) cNil)) (gN 3)
    (cAsg (cOp addD (cOp mulD (cV 2) (cOp powD (cC (.int 10)) (cC (.int 9)))) (cCall sp__law_draw (cCons (cV 0) (cCons (cOp powD (cC (.int 10)) (cC (.int 9))) cNil)))) (gN 2)))
    (cRet (cOp mulD (cV 2) (cOp ixD (cLst (cCons (cC (.int 1)) (cCons (cUn negD (cC (.int 1))) cNil))) (cCall sp__law_draw (cCons (cV 0) (cCons (cC (.int 2)) cNil))))))))

/-- the digits of a number of p parts -/
def sp__law_number : Spc := fun ds hc Q _ => ∃ b r q N p, ds = [.ref r, .int p] ∧ Dk b r q N hc ∧ N < 900000 ∧ 0 ≤ p ∧ p ≤ 99 ∧ ∀ k hc', k.natAbs < 12 * (10 ^ 9) ^ p.toNat → Dk b r q (N + p.toNat + 2) hc' → Q (.int k) hc'
theorem len__law_number {ds : List D} {hc : CH} {Q E} (h : sp__law_number ds hc Q E) : ds.length = 2 := by
  obtain ⟨b, r, q, N, p, rfl, _⟩ := h
  rfl
theorem pure__law_number {ds : List D} {hc : CH} {Q : D → CH → Prop} {E} (h : sp__law_number ds hc Q E) : c__law_number { nx := fun _ hc' => Q .non hc', rt := Q, xp := fun x _ hc' => E x hc' } (startC N__law_number ds) hc := by
  obtain ⟨b, r, q, N, p, rfl, dk, hN, p0, p1, k⟩ := h
  unfold c__law_number N__law_number
  refine seq_step fun M hM => ?_
  walk_at "n"
  refine ⟨b, r, q, N, 12, rfl, dk, by omega, by decide, by decide, fun k0 hc1 l0 l1 dk => hM _ _ ?_⟩
  refine seq_step fun M hM => ?_
  refine for_step fun R hR => ?_
  walk_at "n"
  refine hR _ _ (fun i sc h => ∃ x : Int, ∃ o, sc = [.val (.ref r), .val (.int p), .val (.int x), o] ∧ 0 ≤ x ∧ x.natAbs < 12 * (10 ^ 9) ^ i ∧ Dk b r q (N + 1 + i) h) ⟨k0, _, rfl, l0, by rw [Nat.pow_zero]; omega, dk⟩ (fun j d sc h Nx e I nx => ?_) (fun sc h I => ?_)
  · obtain ⟨x, o, rfl, x0, x1, dk⟩ := I
    obtain ⟨rfl, jp⟩ := rng_at e
    walk_at "n"
    refine ⟨⟨by decide, by decide, by decide⟩, mulOk_r (by decide), ?_⟩
    refine ⟨⟨by decide, by decide, by decide⟩, b, r, q, _, _, rfl, dk, by omega, by decide, by decide, fun k1 hc2 l2 l3 dk2 => nx _ _ ⟨_, _, rfl, ?_, ?_, dk2⟩⟩
    · exact Int.add_nonneg (Int.mul_nonneg x0 (by decide)) l2
    · have e9 : (10 : Int) ^ (9 : Int).toNat = 1000000000 := by decide
      have e9' : (10 : Nat) ^ 9 = 1000000000 := by decide
      rw [e9] at l3 ⊢
      rw [Nat.pow_succ]
      rw [e9'] at x1 ⊢
      omega
  · obtain ⟨x, o, rfl, x0, x1, dk⟩ := I
    rw [rng_len] at x1 dk
    refine hM _ _ ?_
    walk_at "n"
    refine ⟨by decide, b, r, q, _, _, rfl, dk, by omega, by decide, by decide, fun k1 hc2 l2 l3 dk2 => ?_⟩
    have d3 : Dk b r q (N + p.toNat + 2) hc2 := dk2.mono (by omega)
    rcases (show k1 = 0 ∨ k1 = 1 by omega) with rfl | rfl
    · walk_at "n"
      exact ⟨mulOk_r (by decide), k _ _ (by rw [Int.mul_one]; exact x1) d3⟩
    · walk_at "n"
      exact ⟨mulOk_r (by decide), k _ _ (by rw [Int.natAbs_mul]; simpa using x1) d3⟩


theorem at__law_number (T : Txt K mg) (B : BaseT K mg base) (KX : K.In base) (PS : Sup P mf) (A__law_draw : FnAt P w K mg base 1 "_law_draw" ["_law_deck_here", "_law_many"] sp__law_draw) : FnAt P w K mg base 2 "_law_number" ["_law_deck_here", "_law_parts"] sp__law_number :=
  fn_at (c := c__law_number) T.d__law_number sc__law_number (fun f cdv A outer s H E hr => by
    have nd := sc__law_number.nd
    exact (css_cons (cs_set nd (ce_f A__law_draw hr (ca_cons (ce_v 0) (ca_cons ce_i ca_nil))))
    (css_cons (cs_for hr.p rfl (ci_r1 T.n_range (ca_cons (ce_v 1) ca_nil)) (cg_n 3 nd)
    (css_one (cs_set nd (ce_op op_addD (CE.bo (ce_op op_mulD (CE.bo (ce_v 2)) (CE.bo (ce_op op_powD (CE.bo ce_i) (CE.bo ce_i))))) (CE.bo (ce_f A__law_draw hr (ca_cons (ce_v 0) (ca_cons (ce_op op_powD (CE.bo ce_i) (CE.bo ce_i)) ca_nil))))))))
    (css_one (cs_ret (CE.bo (ce_op op_mulD (CE.bo (ce_v 2)) (CE.bo (ce_ix (CE.bo (ce_lst (ca_cons ce_i (ca_cons (ce_un un_negD (CE.bo ce_i)) ca_nil)))) (ce_f A__law_draw hr (ca_cons (ce_v 0) (ca_cons ce_i ca_nil))))))))))))
    (fun ds hc Q E h => len__law_number h) (fun ds hc Q E h => pure__law_number h) (fun _ _ _ _ _ _ us hl => match us, hl with | [_, _], _ => rfl)

abbrev N__law_line : List Str := ["_law_deck_here", "_law_most", "_law_parts", "_law_a", "_law_b", "_law_c", "_law_way"]
def c__law_line : CSx :=
  (cSeq (cAsg (cOp ixD (cLst (cCons (cC (.int 0)) (cCons (cC (.int 0)) (cCons (cC (.int 0)) (cCons (cC (.int 1)) (cCons (cC (.int 6)) (cCons (cV 1) cNil))))))) (cCall sp__law_draw (cCons (cV 0) (cCons (cC (.int 6)) cNil)))) (gN 2))
    (cSeq (cPar 3 4 (cCons (cCall sp__law_number (cCons (cV 0) (cCons (cFn minD2 (cCons (cV 2) (cCons (cV 1) cNil))) cNil))) (cCons (cCall sp__law_number (cCons (cV 0) (cCons (cFn minD2 (cCons (cV 2) (cCons (cV 1) cNil))) cNil))) cNil)))
    (cSeq (cAsg (cOp addD (cC (.int 1)) (cFn absD (cCons (cCall sp__law_number (cCons (cV 0) (cCons (cFn minD2 (cCons (cV 1) (cCons (cOp ixD (cLst (cCons (cV 2) (cCons (cV 2) (cCons (cC (.int 0)) cNil)))) (cCall sp__law_draw (cCons (cV 0) (cCons (cC (.int 3)) cNil)))) cNil))) cNil))) cNil))) (gN 5))
    (cSeq (cAsg (cCall sp__law_draw (cCons (cV 0) (cCons (cC (.int 6)) cNil))) (gN 6))
    (cSeq (cIfS (cT (cOp ltD (cV 6) (cC (.int 2))))
    (cAsg (cOp addD (cOp mulD (cV 5) (cOp subD (cCall sp__law_draw (cCons (cV 0) (cCons (cC (.int 9)) cNil))) (cC (.int 4)))) (cOp mulD (cV 6) (cOp ixD (cLst (cCons (cC (.int 1)) (cCons (cUn negD (cC (.int 1))) cNil))) (cCall sp__law_draw (cCons (cV 0) (cCons (cC (.int 2)) cNil)))))) (gN 3))
    cNext)
    (cRet (cTup (cCons (cV 3) (cCons (cV 4) (cCons (cV 5) cNil))))))))))

def sp__law_line : Spc := fun ds hc Q _ => ∃ b r q N most, ds = [.ref r, .int most] ∧ 0 ≤ most ∧ most ≤ 33 ∧ Dk b r q N hc ∧ N < 800000 ∧ ∀ a x c hc', 0 < c → c.natAbs < 2 ^ 991 → a.natAbs < 2 ^ 1200 → x.natAbs < 2 ^ 1200 → Dk b r q (N + 200) hc' → Q (.tup [.int a, .int x, .int c]) hc'
theorem len__law_line {ds : List D} {hc : CH} {Q E} (h : sp__law_line ds hc Q E) : ds.length = 2 := by
  obtain ⟨b, r, q, N, most, rfl, _⟩ := h
  rfl
theorem num_lt {k : Int} {p : Nat} (h : k.natAbs < 12 * (10 ^ 9) ^ p) (hp : p ≤ 33) : k.natAbs < 2 ^ 1001 := by
  have h1 : 12 * (10 ^ 9) ^ p ≤ 12 * (10 ^ 9) ^ 33 := Nat.mul_le_mul_left _ (Nat.pow_le_pow_right (by decide) hp)
  have h2 : 12 * (10 ^ 9) ^ 33 < 2 ^ 1001 := by decide +kernel
  exact Nat.lt_of_lt_of_le h (Nat.le_of_lt (Nat.lt_of_le_of_lt h1 h2))
theorem num_c {k : Int} {p : Nat} (h : k.natAbs < 12 * (10 ^ 9) ^ p) (hp : p ≤ 33) : k.natAbs + 1 < 2 ^ 991 := by
  have h1 : 12 * (10 ^ 9) ^ p ≤ 12 * (10 ^ 9) ^ 33 := Nat.mul_le_mul_left _ (Nat.pow_le_pow_right (by decide) hp)
  have h2 : 12 * (10 ^ 9) ^ 33 < 2 ^ 991 := by decide +kernel
  exact Nat.lt_of_le_of_lt h (Nat.lt_of_le_of_lt h1 h2)
theorem pow991 : (2 : Nat) ^ 991 < 2 ^ 1100 := by decide +kernel
theorem pow1001 : (2 : Nat) ^ 1001 + 1 < 2 ^ 1100 := by decide +kernel
theorem pow1100 : (2 : Nat) ^ 1100 * 9 + 9 < 2 ^ 1200 := by decide +kernel
theorem pure__law_line {ds : List D} {hc : CH} {Q : D → CH → Prop} {E} (h : sp__law_line ds hc Q E) : c__law_line { nx := fun _ hc' => Q .non hc', rt := Q, xp := fun x _ hc' => E x hc' } (startC N__law_line ds) hc := by
  obtain ⟨b, r, q, N, most, rfl, hm0, hm1, dk, hN, k⟩ := h
  unfold c__law_line N__law_line
  refine seq_step fun M hM => ?_
  walk_at "n"
  refine ⟨by decide, b, r, q, N, 6, rfl, dk, by omega, by decide, by decide, fun k0 hc1 l0 l1 dk => ?_⟩
  have hp : ∃ p : Int, 0 ≤ p ∧ p ≤ 33 ∧ atI [.int 0, .int 0, .int 0, .int 1, .int 6, .int most] k0 = some (D.int p) := by
    rcases (show k0 = 0 ∨ k0 = 1 ∨ k0 = 2 ∨ k0 = 3 ∨ k0 = 4 ∨ k0 = 5 by omega) with rfl | rfl | rfl | rfl | rfl | rfl
    · exact ⟨0, by decide, by decide, rfl⟩
    · exact ⟨0, by decide, by decide, rfl⟩
    · exact ⟨0, by decide, by decide, rfl⟩
    · exact ⟨1, by decide, by decide, rfl⟩
    · exact ⟨6, by decide, by decide, rfl⟩
    · exact ⟨most, hm0, hm1, rfl⟩
  obtain ⟨p, p0, p1, ep⟩ := hp
  refine oth_some ep (hM _ _ ?_)
  refine seq_step fun M hM => ?_
  walk_at "n"
  have em0 : 0 ≤ (if most < p then most else p) := by split <;> omega
  have em1 : (if most < p then most else p) ≤ 33 := by split <;> omega
  revert em0 em1
  generalize (if most < p then most else p) = p'
  intro em0 em1
  refine ⟨b, r, q, _, _, rfl, dk, by omega, em0, by omega, fun x1 hc2 lx1 dk2 => ?_⟩
  refine ⟨b, r, q, _, _, rfl, dk2, by omega, em0, by omega, fun x2 hc3 lx2 dk3 => hM _ _ ?_⟩
  have dk4 := dk3.mono (M := N + 80) (by omega)
  have lx1 := num_lt lx1 (by omega)
  have lx2 := num_lt lx2 (by omega)
  refine seq_step fun M hM => ?_
  walk_at "n"
  refine ⟨by decide, b, r, q, _, _, rfl, dk4, by omega, by decide, by decide, fun k1 hc4 l2 l3 dk5 => ?_⟩
  have hp2 : ∃ p2 : Int, 0 ≤ p2 ∧ p2 ≤ 33 ∧ atI [.int p, .int p, .int 0] k1 = some (D.int p2) := by
    rcases (show k1 = 0 ∨ k1 = 1 ∨ k1 = 2 by omega) with rfl | rfl | rfl
    · exact ⟨p, p0, p1, rfl⟩
    · exact ⟨p, p0, p1, rfl⟩
    · exact ⟨0, by decide, by decide, rfl⟩
  obtain ⟨p2, p20, p21, ep2⟩ := hp2
  refine oth_some ep2 ?_
  walk_at "n"
  have en0 : 0 ≤ (if p2 < most then p2 else most) := by split <;> omega
  have en1 : (if p2 < most then p2 else most) ≤ 33 := by split <;> omega
  revert en0 en1
  generalize (if p2 < most then p2 else most) = p3
  intro en0 en1
  refine ⟨b, r, q, _, _, rfl, dk5, by omega, en0, by omega, fun x3 hc5 lx3 dk6 => ?_⟩
  have lx3 := num_c lx3 (by omega)
  have dk6 := dk6.mono (M := N + 150) (by omega)
  walk_at "n"
  have c1 : 0 < 1 + (if x3 < 0 then -x3 else x3) := by split <;> omega
  have c2 : (1 + (if x3 < 0 then -x3 else x3)).natAbs < 2 ^ 991 := by split <;> omega
  revert c1 c2
  generalize 1 + (if x3 < 0 then -x3 else x3) = c
  intro c1 c2
  refine hM _ _ ?_
  refine seq_step fun M hM => ?_
  walk_at "n"
  refine ⟨b, r, q, _, _, rfl, dk6, by omega, by decide, by decide, fun w hc6 l4 l5 dk7 => hM _ _ ?_⟩
  refine seq_step fun M hM => ?_
  walk_at "n"
  refine ite2 (fun _ => ?_) (fun _ => ?_)
  · refine ⟨b, r, q, _, _, rfl, dk7, by omega, by decide, by decide, fun k2 hc7 l6 l7 dk8 => ?_⟩
    walk_at "n"
    refine ⟨mulOk_r (by omega), by decide, ?_⟩
    refine ⟨b, r, q, _, _, rfl, dk8, by omega, by decide, by decide, fun k3 hc8 l8 l9 dk9 => ?_⟩
    have hs : ∃ s : Int, (s = 1 ∨ s = -1) ∧ atI [.int 1, .int (-1)] k3 = some (D.int s) := by
      rcases (show k3 = 0 ∨ k3 = 1 by omega) with rfl | rfl
      · exact ⟨1, .inl rfl, rfl⟩
      · exact ⟨-1, .inr rfl, rfl⟩
    obtain ⟨s, hs, es⟩ := hs
    refine oth_some es ?_
    walk_at "n"
    refine ⟨mulOk_r (by omega), hM _ _ ?_⟩
    walk_at "n"
    have a1 : (c * (k2 - 4)).natAbs ≤ c.natAbs * 9 := by
      rw [Int.natAbs_mul]; exact Nat.mul_le_mul_left _ (by omega)
    have a2 : (w * s).natAbs ≤ 9 := by
      rw [Int.natAbs_mul]
      have : s.natAbs = 1 := by omega
      rw [this]; omega
    have p3 := pow1100
    have p4 := pow1001
    have p5 := pow991
    exact ⟨by decide, k _ _ _ _ c1 c2 (by omega) (by omega) (dk9.mono (by omega))⟩
  · refine hM _ _ ?_
    walk_at "n"
    have p3 := pow1100
    have p4 := pow1001
    have p5 := pow991
    exact ⟨by decide, k _ _ _ _ c1 c2 (by omega) (by omega) (dk7.mono (by omega))⟩


theorem at__law_line (T : Txt K mg) (B : BaseT K mg base) (KX : K.In base) (PS : Sup P mf) (A__law_draw : FnAt P w K mg base 1 "_law_draw" ["_law_deck_here", "_law_many"] sp__law_draw) (A__law_number : FnAt P w K mg base 2 "_law_number" ["_law_deck_here", "_law_parts"] sp__law_number) : FnAt P w K mg base 3 "_law_line" ["_law_deck_here", "_law_most"] sp__law_line :=
  fn_at (c := c__law_line) T.d__law_line sc__law_line (fun f cdv A outer s H E hr => by
    have nd := sc__law_line.nd
    exact (css_cons (cs_set nd (ce_ix (CE.bo (ce_lst (ca_cons ce_i (ca_cons ce_i (ca_cons ce_i (ca_cons ce_i (ca_cons ce_i (ca_cons (ce_v 1) ca_nil)))))))) (ce_f A__law_draw hr (ca_cons (ce_v 0) (ca_cons ce_i ca_nil)))))
    (css_cons (cs_par rfl nd (ca_cons (ce_f A__law_number hr (ca_cons (ce_v 0) (ca_cons (ce_bf (bf_min2 rfl) T.n_min (cba_cons (CE.bo (ce_v 2)) (cba_cons (CE.bo (ce_v 1)) cba_nil))) ca_nil))) (ca_cons (ce_f A__law_number hr (ca_cons (ce_v 0) (ca_cons (ce_bf (bf_min2 rfl) T.n_min (cba_cons (CE.bo (ce_v 2)) (cba_cons (CE.bo (ce_v 1)) cba_nil))) ca_nil))) ca_nil)))
    (css_cons (cs_set nd (ce_op op_addD (CE.bo ce_i) (CE.bo (ce_bf bf_abs T.n_abs (cba_cons (CE.bo (ce_f A__law_number hr (ca_cons (ce_v 0) (ca_cons (ce_bf (bf_min2 rfl) T.n_min (cba_cons (CE.bo (ce_v 1)) (cba_cons (CE.bo (ce_ix (CE.bo (ce_lst (ca_cons (ce_v 2) (ca_cons (ce_v 2) (ca_cons ce_i ca_nil))))) (ce_f A__law_draw hr (ca_cons (ce_v 0) (ca_cons ce_i ca_nil))))) cba_nil))) ca_nil)))) cba_nil)))))
    (css_cons (cs_set nd (ce_f A__law_draw hr (ca_cons (ce_v 0) (ca_cons ce_i ca_nil))))
    (css_cons (cs_if (ct_cmp op_ltD (CE.bo (ce_v 6)) (CE.bo ce_i))
    (css_one (cs_set nd (ce_op op_addD (CE.bo (ce_op op_mulD (CE.bo (ce_v 5)) (CE.bo (ce_op op_subD (CE.bo (ce_f A__law_draw hr (ca_cons (ce_v 0) (ca_cons ce_i ca_nil)))) (CE.bo ce_i))))) (CE.bo (ce_op op_mulD (CE.bo (ce_v 6)) (CE.bo (ce_ix (CE.bo (ce_lst (ca_cons ce_i (ca_cons (ce_un un_negD (CE.bo ce_i)) ca_nil)))) (ce_f A__law_draw hr (ca_cons (ce_v 0) (ca_cons ce_i ca_nil))))))))))
    css_nil)
    (css_one (cs_ret (CE.bo (ce_tup (ca_cons (ce_v 3) (ca_cons (ce_v 4) (ca_cons (ce_v 5) ca_nil)))))))))))))
    (fun ds hc Q E h => len__law_line h) (fun ds hc Q E h => pure__law_line h) (fun _ _ _ _ _ _ us hl => match us, hl with | [_, _], _ => rfl)

abbrev N__law_pair : List Str := ["_law_deck_here", "_law_most", "_law_one", "_law_way", "_law_a", "_law_b", "_law_c", "_law_other", "_law_times"]
def c__law_pair : CSx :=
  (cSeq (cPar 2 3 (cCons (cCall sp__law_line (cCons (cV 0) (cCons (cV 1) cNil))) (cCons (cCall sp__law_draw (cCons (cV 0) (cCons (cC (.int 7)) cNil))) cNil)))
    (cSeq (cAsg (cV 2) (gUn 3 (gCons' (gN 4) (gCons' (gN 5) (gCons' (gN 6) gNil')))))
    (cSeq (cAsg (cCall sp__law_line (cCons (cV 0) (cCons (cV 1) cNil))) (gN 7))
    (cSeq (cIfS (cT (cOp eqD (cV 3) (cC (.int 1))))
    (cAsg (cTup (cCons (cV 4) (cCons (cOp subD (cOp addD (cV 5) (cCall sp__law_draw (cCons (cV 0) (cCons (cC (.int 9)) cNil)))) (cC (.int 4))) (cCons (cV 6) cNil)))) (gN 7))
    cNext)
    (cSeq (cIfS (cT (cOp eqD (cV 3) (cC (.int 2))))
    (cAsg (cTup (cCons (cOp subD (cOp addD (cV 4) (cCall sp__law_draw (cCons (cV 0) (cCons (cC (.int 3)) cNil)))) (cC (.int 1))) (cCons (cV 5) (cCons (cV 6) cNil)))) (gN 7))
    cNext)
    (cSeq (cIfS (cT (cOp eqD (cV 3) (cC (.int 3))))
    (cAsg (cTup (cCons (cOp subD (cC (.int 0)) (cV 4)) (cCons (cOp addD (cV 5) (cCall sp__law_draw (cCons (cV 0) (cCons (cC (.int 9)) cNil)))) (cCons (cV 6) cNil)))) (gN 7))
    cNext)
    (cSeq (cIfS (cT (cOp eqD (cV 3) (cC (.int 4))))
    (cSeq (cAsg (cOp addD (cC (.int 1)) (cCall sp__law_draw (cCons (cV 0) (cCons (cC (.int 4)) cNil)))) (gN 8))
    (cAsg (cTup (cCons (cOp mulD (cV 8) (cV 4)) (cCons (cOp addD (cOp mulD (cV 8) (cV 5)) (cCall sp__law_draw (cCons (cV 0) (cCons (cC (.int 2)) cNil)))) (cCons (cOp mulD (cV 8) (cV 6)) cNil)))) (gN 7)))
    cNext)
    (cSeq (cIfS (cT (cOp eqD (cV 3) (cC (.int 5))))
    (cAsg (cTup (cCons (cOp subD (cOp addD (cOp mulD (cC (.int 2)) (cV 4)) (cCall sp__law_draw (cCons (cV 0) (cCons (cC (.int 3)) cNil)))) (cC (.int 1))) (cCons (cOp mulD (cC (.int 2)) (cV 5)) (cCons (cOp mulD (cC (.int 2)) (cV 6)) cNil)))) (gN 7))
    cNext)
    (cSeq (cIfS (cT (cOp eqD (cV 3) (cC (.int 6))))
    (cAsg (cTup (cCons (cV 4) (cCons (cOp addD (cV 5) (cOp mulD (cV 6) (cOp subD (cCall sp__law_draw (cCons (cV 0) (cCons (cC (.int 3)) cNil))) (cC (.int 1))))) (cCons (cV 6) cNil)))) (gN 7))
    cNext)
    (cRet (cLst (cCons (cV 2) (cCons (cV 7) cNil)))))))))))))

/-! ### sums over lines -/
def sumN : Nat → (Nat → Int) → Int
  | 0, _ => 0
  | n + 1, f => sumN n f + f n
theorem sumN_range (f : Nat → Int) : ∀ n, ((List.range n).map f).sum = sumN n f
  | 0 => rfl
  | n + 1 => by
    rw [List.range_succ, List.map_append, List.sum_append, sumN_range f n]
    simp [sumN]
theorem sumN_congr {f g : Nat → Int} : ∀ {n : Nat}, (∀ i, i < n → f i = g i) → sumN n f = sumN n g
  | 0, _ => rfl
  | n + 1, h => by
    show sumN n f + f n = sumN n g + g n
    rw [sumN_congr fun i hi => h i (by omega), h n (by omega)]
theorem sumN_add {f g : Nat → Int} : ∀ {n : Nat}, sumN n (fun i => f i + g i) = sumN n f + sumN n g
  | 0 => rfl
  | n + 1 => by
    show sumN n _ + (f n + g n) = (sumN n f + f n) + (sumN n g + g n)
    rw [sumN_add]; omega
theorem sumN_const {k : Int} : ∀ {n : Nat}, sumN n (fun _ => k) = k * n
  | 0 => by simp [sumN]
  | n + 1 => by
    show sumN n _ + k = _
    rw [sumN_const]
    rw [show ((n + 1 : Nat) : Int) = (n : Int) + 1 by omega, Int.mul_add, Int.mul_one]
theorem sumN_mul {k : Int} {f : Nat → Int} : ∀ {n : Nat}, sumN n (fun i => k * f i) = k * sumN n f
  | 0 => by simp [sumN]
  | n + 1 => by
    show sumN n _ + k * f n = k * (sumN n f + f n)
    rw [sumN_mul, Int.mul_add]
theorem sumN_shift {f : Nat → Int} : ∀ {n : Nat}, sumN (n + 1) f = f 0 + sumN n fun i => f (i + 1)
  | 0 => by simp [sumN]
  | n + 1 => by
    show sumN (n + 1) f + f (n + 1) = f 0 + (sumN n (fun i => f (i + 1)) + f (n + 1))
    rw [sumN_shift]; omega
theorem sumN_tri : ∀ {n : Nat}, sumN n (fun i => (i : Int)) = (n : Int) * (n - 1) / 2
  | 0 => rfl
  | n + 1 => by
    show sumN n (fun i => (i : Int)) + n = _
    rw [sumN_tri]
    have e : ((n + 1 : Nat) : Int) * (((n + 1 : Nat) : Int) - 1) = (n : Int) * (n - 1) + n * 2 := by
      rw [show ((n + 1 : Nat) : Int) = (n : Int) + 1 by omega, show (n : Int) + 1 - 1 = n by omega, Int.add_mul, Int.mul_sub]
      omega
    rw [e, Int.add_mul_ediv_right _ _ (by decide)]
/-- the values of a line from 0 on -/
def lineN (n a b c : Int) : Int := sumN n.toNat fun i => (a * i + b) / c
/-- a and b may be cut to their rests -/
theorem line_cut {a b c : Int} (h : 0 < c) (i : Int) : (a * i + b) / c = a / c * i + b / c + (a % c * i + b % c) / c := by
  have e1 := Int.mul_ediv_add_emod a c
  have e2 := Int.mul_ediv_add_emod b c
  have e : a * i + b = (a % c * i + b % c) + c * (a / c * i + b / c) := by
    conv => lhs; rw [← e1, ← e2]
    rw [Int.add_mul, Int.mul_add, Int.mul_assoc]
    omega
  rw [e, Int.add_mul_ediv_left _ _ (by omega)]
  omega
theorem lineN_cut {n a b c : Int} (hn : 0 ≤ n) (h : 0 < c) : lineN n a b c = a / c * (n * (n - 1) / 2) + b / c * n + lineN n (a % c) (b % c) c := by
  unfold lineN
  rw [sumN_congr fun i _ => line_cut h i, sumN_add, sumN_add, sumN_mul, sumN_tri, sumN_const]
  rw [show ((n.toNat : Nat) : Int) = n by omega]
/-- no value behind a low top -/
theorem lineN_low {n a b c : Int} (hn : 0 ≤ n) (h : 0 < c) (ha : 0 ≤ a) (hb : 0 ≤ b) (ht : a * n + b < c) : lineN n a b c = 0 := by
  unfold lineN
  rw [sumN_congr (g := fun _ => 0) fun i hi => ?_, sumN_const, Int.zero_mul]
  have h1 : a * (i : Int) ≤ a * n := Int.mul_le_mul_of_nonneg_left (by omega) ha
  have h2 : 0 ≤ a * (i : Int) := Int.mul_nonneg ha (by omega)
  exact Int.ediv_eq_zero_of_lt (by omega) (by omega)
/-- turned round -/
theorem line_turn {a b c : Int} (ha : 0 < a) (hac : a < c) (hb : 0 ≤ b) (hbc : b < c) : ∀ n : Nat, lineN n a b c = lineN ((a * n + b) / c) c ((a * n + b) % c) a
  | 0 => by
    have e : (a * ((0 : Nat) : Int) + b) / c = 0 := Int.ediv_eq_zero_of_lt (by simp; omega) (by simp; omega)
    rw [e]
    rfl
  | n + 1 => by
    have ih := line_turn ha hac hb hbc n
    have hm : 0 ≤ a * (n : Int) + b := Int.add_nonneg (Int.mul_nonneg (by omega) (by omega)) hb
    have d0 := Int.mul_ediv_add_emod (a * (n : Int) + b) c
    have r0 := Int.emod_nonneg (a * (n : Int) + b) (show c ≠ 0 by omega)
    have r1 := Int.emod_lt_of_pos (a * (n : Int) + b) (show 0 < c by omega)
    have m0 : 0 ≤ (a * (n : Int) + b) / c := Int.ediv_nonneg hm (by omega)
    have e0 : a * ((n + 1 : Nat) : Int) + b = (a * (n : Int) + b) + a := by
      rw [show ((n + 1 : Nat) : Int) = (n : Int) + 1 by omega, Int.mul_add]; omega
    have lhs : lineN ((n + 1 : Nat) : Int) a b c = lineN (n : Int) a b c + (a * (n : Int) + b) / c := by
      unfold lineN
      rfl
    rw [lhs, ih, e0]
    revert d0 r0 r1 m0
    generalize (a * (n : Int) + b) / c = m
    generalize (a * (n : Int) + b) % c = r
    generalize a * (n : Int) + b = t
    intro d0 r0 r1 m0
    -- one more item of the right sum
    have add1 : ∀ k : Nat, sumN k (fun i => (c * (i : Int) + (r + a)) / a) = sumN k (fun i => (c * (i : Int) + r) / a) + k := fun k => by
      rw [sumN_congr (g := fun i => (c * (i : Int) + r) / a + 1) fun i _ => ?_, sumN_add, sumN_const]
      · omega
      · rw [show c * (i : Int) + (r + a) = (c * (i : Int) + r) + a * 1 by omega, Int.add_mul_ediv_left _ _ (by omega)]
    by_cases low : r + a < c
    · have e1 : (t + a) / c = m := by
        rw [← d0, show c * m + r + a = (r + a) + c * m by omega, Int.add_mul_ediv_left _ _ (by omega), Int.ediv_eq_zero_of_lt (by omega) low]
        omega
      have e2 : (t + a) % c = r + a := by
        rw [← d0, show c * m + r + a = (r + a) + c * m by omega, Int.add_mul_emod_self_left, Int.emod_eq_of_lt (by omega) low]
      rw [e1, e2]
      unfold lineN
      rw [add1]
      omega
    · have e1 : (t + a) / c = m + 1 := by
        rw [← d0, show c * m + r + a = (r + a - c) + c * (m + 1) by rw [Int.mul_add]; omega, Int.add_mul_ediv_left _ _ (by omega), Int.ediv_eq_zero_of_lt (by omega) (by omega)]
        omega
      have e2 : (t + a) % c = r + a - c := by
        rw [← d0, show c * m + r + a = (r + a - c) + c * (m + 1) by rw [Int.mul_add]; omega, Int.add_mul_emod_self_left, Int.emod_eq_of_lt (by omega) (by omega)]
      rw [e1, e2]
      unfold lineN
      rw [show (m + 1).toNat = m.toNat + 1 by omega, sumN_shift]
      have z : (c * ((0 : Nat) : Int) + (r + a - c)) / a = 0 := Int.ediv_eq_zero_of_lt (by simp; omega) (by simp; omega)
      have s1 : sumN m.toNat (fun i => (c * ((i + 1 : Nat) : Int) + (r + a - c)) / a) = sumN m.toNat (fun i => (c * (i : Int) + (r + a)) / a) := sumN_congr fun i _ => by
        rw [show ((i + 1 : Nat) : Int) = (i : Int) + 1 by omega, Int.mul_add, show c * (i : Int) + c * 1 + (r + a - c) = c * (i : Int) + (r + a) by omega]
      rw [z, s1, add1]
      omega
/-! ### sum rows -/
structure Tn where
  n : Int
  a : Int
  b : Int
  c : Int
def Tn.d (t : Tn) : D := .tup [.int t.n, .int t.a, .int t.b, .int t.c]
def Tn.top (t : Tn) : Int := t.a % t.c * t.n + t.b % t.c
def Tn.next (t : Tn) : Option Tn := if t.n ≤ 4 ∨ t.top < t.c then none else some ⟨t.top / t.c, t.c, t.top % t.c, t.a % t.c⟩
def Tn.sum (t : Tn) (more : Int) : Int := if t.n ≤ 4 then lineN t.n t.a t.b t.c else t.a / t.c * (t.n * (t.n - 1) / 2) + t.b / t.c * t.n + more
inductive Ch : Tn → List Tn → Prop
  | last {t : Tn} : t.next = none → Ch t [t]
  | more {t u : Tn} {ts : List Tn} : t.next = some u → Ch u ts → Ch t (t :: ts)
def tot : List Tn → Int
  | [] => 0
  | t :: ts => t.sum (tot ts)
structure Tn.Ok (t : Tn) : Prop where
  n0 : 0 ≤ t.n
  c0 : 0 < t.c
theorem Tn.Ok.r0 {t : Tn} (h : t.Ok) : 0 ≤ t.a % t.c ∧ t.a % t.c < t.c ∧ 0 ≤ t.b % t.c ∧ t.b % t.c < t.c :=
  have := h.c0
  ⟨Int.emod_nonneg _ (by omega), Int.emod_lt_of_pos _ (by omega), Int.emod_nonneg _ (by omega), Int.emod_lt_of_pos _ (by omega)⟩
theorem Tn.Ok.top0 {t : Tn} (h : t.Ok) : 0 ≤ t.top := Int.add_nonneg (Int.mul_nonneg h.r0.1 h.n0) h.r0.2.2.1
theorem Tn.Ok.apos {t : Tn} (h : t.Ok) (g : ¬ t.top < t.c) : 0 < t.a % t.c := by
  obtain ⟨h1, h2, h3, h4⟩ := h.r0
  by_cases z : t.a % t.c = 0
  · unfold Tn.top at g
    rw [z, Int.zero_mul] at g
    omega
  · omega
theorem Tn.Ok.next {t u : Tn} (h : t.Ok) (e : t.next = some u) : u.Ok ∧ u.c < t.c ∧ u.a = t.c ∧ u.n ≤ t.n ∧ 0 ≤ u.b ∧ u.b < t.c ∧ ¬ t.n ≤ 4 ∧ ¬ t.top < t.c := by
  unfold Tn.next at e
  split at e
  · cases e
  · next g =>
    cases e
    have g1 : ¬ t.n ≤ 4 := fun z => g (.inl z)
    have g2 : ¬ t.top < t.c := fun z => g (.inr z)
    obtain ⟨h1, h2, h3, h4⟩ := h.r0
    have := h.c0
    refine ⟨⟨Int.ediv_nonneg h.top0 (by omega), h.apos g2⟩, h2, rfl, ?_, Int.emod_nonneg _ (by omega), Int.emod_lt_of_pos _ (by omega), g1, g2⟩
    show t.top / t.c ≤ t.n
    have l : t.top < t.c * (t.n + 1) := by
      unfold Tn.top
      have : t.a % t.c * t.n ≤ (t.c - 1) * t.n := Int.mul_le_mul_of_nonneg_right (by omega) h.n0
      rw [Int.sub_mul, Int.one_mul] at this
      rw [Int.mul_add, Int.mul_one]
      have := h.n0
      omega
    have := Int.ediv_lt_of_lt_mul (by omega) (show t.top < (t.n + 1) * t.c by rw [Int.mul_comm]; exact l)
    omega
theorem tot_ok {t : Tn} {ts : List Tn} (h : Ch t ts) : t.Ok → tot ts = lineN t.n t.a t.b t.c := by
  induction h with
  | @last t e =>
    intro k
    obtain ⟨h1, h2, h3, h4⟩ := k.r0
    show t.sum 0 = _
    unfold Tn.sum
    split
    · rfl
    · next g =>
      have low : t.top < t.c := by
        unfold Tn.next at e
        split at e
        · next z => rcases z with z | z
                    · exact absurd z g
                    · exact z
        · cases e
      rw [lineN_cut k.n0 k.c0, lineN_low k.n0 k.c0 h1 h3 low]
  | @more t u ts e c ih =>
    intro k
    obtain ⟨k2, c1, c2, c3, c4, c5, g1, g2⟩ := k.next e
    obtain ⟨h1, h2, h3, h4⟩ := k.r0
    show t.sum (tot ts) = _
    unfold Tn.sum
    rw [if_neg g1, ih k2, lineN_cut k.n0 k.c0]
    have lt := line_turn (k.apos g2) h2 h3 h4 t.n.toNat
    rw [show ((t.n.toNat : Nat) : Int) = t.n by have := k.n0; omega] at lt
    rw [lt]
    unfold Tn.next at e
    split at e
    · cases e
    · cases e; rfl
/-- room for all that is computed -/
@[irreducible] def bB : Nat := 2 ^ 4000
theorem bB_mul {x y : Int} (hx : x.natAbs < bB) (hy : y.natAbs < bB) : MulOk x y := by
  unfold bB at hx hy
  exact mulOk 4000 4000 hx hy (by decide)
theorem bB_div {x y : Int} (h0 : 0 < y) (hy : y.natAbs < bB) : DivOk x y := by
  unfold bB at hy
  exact divOk 4000 h0 hy (by decide)
theorem bB_le {x : Int} {k : Nat} (h : x.natAbs < 2 ^ k) (hk : k ≤ 4000 := by decide) : x.natAbs < bB := by
  unfold bB
  exact Nat.lt_of_lt_of_le h (Nat.pow_le_pow_right (by decide) hk)
structure Tn.Bd (t : Tn) : Prop extends Tn.Ok t where
  nb : t.n.natAbs < bB
  ab : t.a.natAbs < bB
  bb : t.b.natAbs < bB
  cb : t.c.natAbs < bB
theorem Tn.Bd.next {t u : Tn} (h : t.Bd) (e : t.next = some u) : u.Bd ∧ u.c.toNat < t.c.toNat := by
  obtain ⟨k2, c1, c2, c3, c4, c5, g1, g2⟩ := h.toOk.next e
  have h1 := h.nb
  have h2 := h.cb
  have h3 := k2.c0
  have h4 := k2.n0
  have h5 := h.c0
  exact ⟨⟨k2, by omega, by rw [c2]; exact h2, by omega, by omega⟩, by omega⟩
/-- the rows with their totals -/
def rowD (t : Tn) (s : Int) : D := .tup [.int t.n, .int t.a, .int t.b, .int t.c, .int s]
def rowsD : List Tn → List D
  | [] => []
  | t :: ts => rowD t (tot (t :: ts)) :: rowsD ts
theorem rowsD_len : ∀ ts : List Tn, (rowsD ts).length = ts.length
  | [] => rfl
  | t :: ts => by show (rowsD ts).length + 1 = ts.length + 1; rw [rowsD_len ts]
theorem Ch.head {t : Tn} {ts : List Tn} (h : Ch t ts) : ∃ r, ts = t :: r := by
  cases h
  · exact ⟨_, rfl⟩
  · exact ⟨_, rfl⟩
/-- each turn of the list is within bounds -/
theorem Ch.bd {t : Tn} {ts : List Tn} (h : Ch t ts) : t.Bd → ∀ u ∈ ts, u.Bd := by
  induction h with
  | last e => intro k u hu; rw [List.mem_singleton.mp hu]; exact k
  | more e c ih =>
    intro k u hu
    rcases List.mem_cons.mp hu with rfl | hu
    · exact k
    · exact ih (k.next e).1 u hu

theorem bB_pos1 : 1 < bB := by unfold bB; decide +kernel
theorem bB_small {x : Int} (h : x.natAbs < 1000) : x.natAbs < bB := bB_le (k := 10) (Nat.lt_trans h (by decide))
theorem bB_wide {x y : Int} (hx : x.natAbs ≤ bB) (hy : y.natAbs ≤ bB * bB) : MulOk x y := by
  unfold bB at hx hy
  have e1 : (2 : Nat) ^ 4000 < 2 ^ 4001 := Nat.pow_lt_pow_right (by decide) (by decide)
  have e2 : (2 : Nat) ^ 4000 * 2 ^ 4000 < 2 ^ 8001 := by rw [← Nat.pow_add]; exact Nat.pow_lt_pow_right (by decide) (by decide)
  exact mulOk 4001 8001 (Nat.lt_of_le_of_lt hx e1) (Nat.lt_of_le_of_lt hy e2) (by decide)
theorem ediv_up {i c : Int} (h : 0 < c) : (i / c).natAbs ≤ i.natAbs := by
  have h1 := Int.mul_ediv_add_emod i c
  have h2 := Int.emod_nonneg i (by omega : c ≠ 0)
  have h3 := Int.emod_lt_of_pos i h
  by_cases p : 0 ≤ i
  · have h4 : 0 ≤ i / c := Int.ediv_nonneg p (by omega)
    have := Int.mul_le_mul_of_nonneg_right (show 1 ≤ c by omega) h4
    omega
  · have h4 : i / c < 0 := Int.ediv_neg_of_neg_of_pos (by omega) h
    by_cases q : c = 1
    · subst q; omega
    · have := Int.mul_le_mul_of_nonneg_right (show 2 ≤ c by omega) (show 0 ≤ -(i / c) - 1 by omega)
      rw [Int.mul_sub, Int.mul_sub, Int.mul_neg, Int.mul_neg, Int.mul_one] at this
      omega
/-- how long a chain may be -/
def Fu (k : Nat) (t : Tn) : Prop := t.c ≤ t.a ∧ t.a * t.c < 2 ^ k
theorem Fu.pos {k : Nat} {t : Tn} (h : Fu k t) (o : t.Ok) : 0 < k := by
  cases k with
  | zero =>
    have h1 := o.c0
    have h2 : 1 ≤ t.a * t.c := Int.mul_pos (by have := h.1; omega) h1
    have := h.2
    rw [Int.pow_zero] at this
    omega
  | succ k => omega
theorem Fu.next {k : Nat} {t u : Tn} (h : Fu (k + 1) t) (o : t.Ok) (e : t.next = some u) : Fu k u := by
  obtain ⟨k2, c1, c2, c3, c4, c5, g1, g2⟩ := o.next e
  have ca : u.c = t.a % t.c := by
    unfold Tn.next at e
    split at e
    · cases e
    · cases e; rfl
  have h1 := o.c0
  refine ⟨by omega, ?_⟩
  have l1 : 2 * (t.a % t.c) < t.a := by
    have d := Int.mul_ediv_add_emod t.a t.c
    have q : 1 ≤ t.a / t.c := Int.le_ediv_of_mul_le h1 (by rw [Int.one_mul]; exact h.1)
    have q2 : t.c ≤ t.c * (t.a / t.c) := by
      have := Int.mul_le_mul_of_nonneg_left q (show 0 ≤ t.c by omega)
      rw [Int.mul_one] at this
      exact this
    omega
  rw [c2, ca]
  have l2 : 2 * (t.a % t.c) * t.c < t.a * t.c := Int.mul_lt_mul_of_pos_right l1 h1
  have l3 := h.2
  rw [Int.pow_succ] at l3
  rw [Int.mul_comm t.c]
  rw [Int.mul_assoc] at l2
  omega
theorem Fu.first {t u : Tn} (h : t.Bd) (e : t.next = some u) : Fu 8000 u := by
  obtain ⟨k2, c1, c2, c3, c4, c5, g1, g2⟩ := h.toOk.next e
  have h1 := k2.c0
  have h2 := h.cb
  refine ⟨by omega, ?_⟩
  rw [c2]
  have l1 : t.c * u.c < t.c * t.c := Int.mul_lt_mul_of_pos_left c1 (by omega)
  have l2 : t.c.natAbs * t.c.natAbs < 2 ^ 8000 := by
    unfold bB at h2
    rw [show (8000 : Nat) = 4000 + 4000 from rfl, Nat.pow_add]
    exact Nat.mul_lt_mul'' h2 h2
  have l3 : ((t.c.natAbs * t.c.natAbs : Nat) : Int) = t.c * t.c := Int.natAbs_mul_self
  have l4 : ((2 ^ 8000 : Nat) : Int) = 2 ^ 8000 := by rw [Int.natCast_pow]; rfl
  rw [← l4]
  have l5 : ((t.c.natAbs * t.c.natAbs : Nat) : Int) < ((2 ^ 8000 : Nat) : Int) := Int.ofNat_lt.mpr l2
  rw [l3] at l5
  exact Int.lt_trans l1 l5
def t_first (a b c lo hi : Int) : Tn := ⟨if hi - lo > 0 then hi - lo else 0, a, b + a * lo, c⟩
theorem Fu.firstc {t u : Tn} (k : Nat) (hc : t.c.natAbs < 2 ^ k) (h : t.Ok) (e : t.next = some u) : Fu (k + k) u := by
  obtain ⟨k2, c1, c2, c3, c4, c5, g1, g2⟩ := h.next e
  have h1 := k2.c0
  refine ⟨by omega, ?_⟩
  rw [c2]
  have l1 : t.c * u.c < t.c * t.c := Int.mul_lt_mul_of_pos_left c1 (by omega)
  have l2 : t.c.natAbs * t.c.natAbs < 2 ^ (k + k) := by
    rw [Nat.pow_add]
    exact Nat.mul_lt_mul'' hc hc
  have l3 : ((t.c.natAbs * t.c.natAbs : Nat) : Int) = t.c * t.c := Int.natAbs_mul_self
  have l4 : ((2 ^ (k + k) : Nat) : Int) = 2 ^ (k + k) := by rw [Int.natCast_pow]; rfl
  rw [← l4]
  have l5 : ((t.c.natAbs * t.c.natAbs : Nat) : Int) < ((2 ^ (k + k) : Nat) : Int) := Int.ofNat_lt.mpr l2
  rw [l3] at l5
  exact Int.lt_trans l1 l5
theorem Ch.step {t u : Tn} {ts : List Tn} (h : Ch t ts) (e : t.next = some u) : ∃ r, ts = t :: r ∧ Ch u r := by
  cases h with
  | last e2 => rw [e] at e2; cases e2
  | more e2 c => rw [e] at e2; cases e2; exact ⟨_, rfl, c⟩
theorem Ch.stop {t : Tn} {ts : List Tn} (h : Ch t ts) (e : t.next = none) : ts = [t] := by
  cases h with
  | last e2 => rfl
  | more e2 c => rw [e] at e2; cases e2
theorem rowsD_cons {t : Tn} {ts : List Tn} : rowsD (t :: ts) = rowD t (tot (t :: ts)) :: rowsD ts := rfl
theorem rows_drop {ts : List Tn} {j : Nat} {t : Tn} (h : ts.reverse[j]? = some t) : ∃ k, k + j + 1 = ts.length ∧ ts.drop k = t :: ts.drop (k + 1) := by
  have lt : j < ts.length := by
    by_cases l : j < ts.reverse.length
    · rw [List.length_reverse] at l; exact l
    · rw [List.getElem?_eq_none (by omega)] at h; cases h
  refine ⟨ts.length - 1 - j, by omega, ?_⟩
  rw [List.getElem?_reverse lt] at h
  obtain ⟨l, e⟩ := List.getElem?_eq_some_iff.mp h
  rw [List.drop_eq_getElem_cons l, e]
theorem line_first {a b c lo hi : Int} : lineN (t_first a b c lo hi).n a (b + a * lo) c = lineN (hi - lo) a (b + a * lo) c := by
  unfold lineN t_first
  congr 1
  show (if hi - lo > 0 then hi - lo else 0).toNat = _
  split <;> omega
theorem tot_first {a b c lo hi : Int} {ts : List Tn} (h : Ch (t_first a b c lo hi) ts) (o : (t_first a b c lo hi).Ok) : tot ts = lineN (hi - lo) a (b + a * lo) c := (tot_ok h o).trans line_first


/-! ### members of lines -/
def Mem (a b c : Int) (side : D) (x : Int) : Prop := (a * x + b) % c = 0 ∧ (side = .non ∨ side = .int ((a * x + b) / c % 2))
structure Ap (P : Int → Prop) (lo f s : Int) : Prop where
  s0 : 0 < s
  f0 : lo ≤ f
  f1 : f < lo + s
  iff : ∀ x, P x ↔ (x - f) % s = 0
def apD (hi f s : Int) : D := if f < hi then .tup [.int f, .int s, .int ((hi - 1 - f) / s + 1)] else .non
def ResD (P : Int → Prop) (lo hi : Int) (res : D) : Prop := ((∀ x, ¬ P x) ∧ res = .non) ∨ ∃ f s, Ap P lo f s ∧ res = apD hi f s
section
variable {P : Int → Prop} {lo hi f s f' s' : Int}
theorem Ap.at0 (h : Ap P lo f s) : P f := (h.iff f).mpr (by rw [Int.sub_self]; exact Int.zero_emod _)
theorem Ap.at1 (h : Ap P lo f s) : P (f + s) := (h.iff _).mpr (by rw [show f + s - f = s by omega]; exact Int.emod_self)
theorem Ap.least (h : Ap P lo f s) {x : Int} (hx : P x) (hl : lo ≤ x) : f ≤ x := by
  have d := Int.dvd_of_emod_eq_zero ((h.iff x).mp hx)
  obtain ⟨k, e⟩ := d
  have := h.f1
  have s0 := h.s0
  refine Int.not_lt.mp fun lt => ?_
  have k1 : k ≤ -1 := by
    refine Int.not_lt.mp fun z => ?_
    have : 0 ≤ s * k := Int.mul_nonneg (by omega) (by omega)
    omega
  have : s * k ≤ s * (-1) := Int.mul_le_mul_of_nonneg_left k1 (by omega)
  omega
theorem Ap.uniq (h : Ap P lo f s) (h' : Ap P lo f' s') : f = f' ∧ s = s' := by
  have e : f = f' := Int.le_antisymm (h.least h'.at0 h'.f0) (h'.least h.at0 h.f0)
  subst e
  refine ⟨rfl, ?_⟩
  have d1 := Int.dvd_of_emod_eq_zero ((h'.iff _).mp h.at1)
  have d2 := Int.dvd_of_emod_eq_zero ((h.iff _).mp h'.at1)
  rw [show f + s - f = s by omega] at d1
  rw [show f + s' - f = s' by omega] at d2
  exact Int.le_antisymm (Int.le_of_dvd h'.s0 d2) (Int.le_of_dvd h.s0 d1)
theorem ResD.uniq {r r' : D} (h : ResD P lo hi r) (h' : ResD P lo hi r') : r = r' := by
  rcases h with ⟨n, rfl⟩ | ⟨f, s, h, rfl⟩
  · rcases h' with ⟨_, rfl⟩ | ⟨f', s', h', rfl⟩
    · rfl
    · exact absurd h'.at0 (n _)
  · rcases h' with ⟨n, rfl⟩ | ⟨f', s', h', rfl⟩
    · exact absurd h.at0 (n _)
    · obtain ⟨rfl, rfl⟩ := h.uniq h'
      rfl
/-- how many there are from lo on, of n -/
noncomputable def cntP (P : Int → Prop) (lo : Int) (n : Nat) : Int := sumN n fun k => @ite Int (P (lo + (k : Nat))) (Classical.propDecidable _) 1 0
theorem cntP_s (n : Nat) : cntP P lo (n + 1) = cntP P lo n + @ite Int (P (lo + (n : Nat))) (Classical.propDecidable _) 1 0 := rfl
theorem cntP_congr {P' : Int → Prop} (h : ∀ x, P x ↔ P' x) {n : Nat} : cntP P lo n = cntP P' lo n := by
  rw [show P = P' from funext fun x => propext (h x)]
theorem div_step {m s : Int} (s0 : 0 < s) : m / s = (m - 1) / s + if m % s = 0 then 1 else 0 := by
  have e := Int.mul_ediv_add_emod m s
  have r0 := Int.emod_nonneg m (show s ≠ 0 by omega)
  have r1 := Int.emod_lt_of_pos m s0
  by_cases z : m % s = 0
  · rw [if_pos z]
    have e2 : m - 1 = (s - 1) + s * (m / s - 1) := by
      rw [Int.mul_sub, Int.mul_one]
      omega
    have e3 : (m - 1) / s = m / s - 1 := by
      rw [e2, Int.add_mul_ediv_left _ _ (show s ≠ 0 by omega), Int.ediv_eq_zero_of_lt (by omega) (by omega), Int.zero_add]
    omega
  · rw [if_neg z, Int.add_zero]
    have e2 : m - 1 = (m % s - 1) + s * (m / s) := by omega
    have e3 : (m - 1) / s = m / s := by
      have q : ((m % s - 1) + s * (m / s)) / s = m / s := by
        rw [Int.add_mul_ediv_left _ _ (show s ≠ 0 by omega), Int.ediv_eq_zero_of_lt (by omega) (by omega), Int.zero_add]
      rw [← e2] at q
      exact q
    omega
theorem cnt_ap (h : Ap P lo f s) : ∀ n : Nat, cntP P lo n = if f < lo + n then (lo + n - 1 - f) / s + 1 else 0
  | 0 => by
    have := h.f0
    rw [if_neg (by omega)]
    rfl
  | n + 1 => by
    rw [cntP_s, cnt_ap h n]
    have s0 := h.s0
    have st := div_step (m := lo + n - f) s0
    have ei := h.iff (lo + (n : Nat))
    by_cases l1 : lo + (n : Nat) < f
    · have np : ¬ P (lo + (n : Nat)) := fun z => by
        have := h.least z (by omega)
        omega
      rw [if_neg np, if_neg (by omega), if_neg (by omega)]
      omega
    · by_cases l2 : lo + (n : Nat) = f
      · have hp : P (lo + (n : Nat)) := by rw [l2]; exact h.at0
        rw [if_pos hp, if_neg (by omega), if_pos (by omega)]
        rw [show lo + ((n + 1 : Nat) : Int) - 1 - f = 0 by omega, Int.zero_ediv]
      · rw [if_pos (show f < lo + (n : Nat) by omega), if_pos (show f < lo + ((n + 1 : Nat) : Int) by omega)]
        rw [show lo + ((n + 1 : Nat) : Int) - 1 - f = lo + n - f by omega, st, show lo + (n : Int) - 1 - f = lo + n - f - 1 by omega]
        by_cases hp : P (lo + (n : Nat))
        · rw [if_pos hp, if_pos (ei.mp hp)]
        · rw [if_neg hp, if_neg (fun z => hp (ei.mpr z))]
          omega
theorem cnt_none (h : ∀ x, ¬ P x) : ∀ n : Nat, cntP P lo n = 0
  | 0 => rfl
  | n + 1 => by rw [cntP_s, cnt_none h n, if_neg (h _)]; rfl
def manyD : D → Int
  | .tup [_, _, .int n] => n
  | _ => 0
theorem res_cnt {r : D} (h : ResD P lo hi r) : manyD r = cntP P lo (hi - lo).toNat := by
  rcases h with ⟨n, rfl⟩ | ⟨f, s, h, rfl⟩
  · rw [cnt_none n]
    rfl
  · rw [cnt_ap h]
    unfold apD
    have := h.f0
    by_cases z : f < hi
    · rw [if_pos z, if_pos (by omega)]
      show (hi - 1 - f) / s + 1 = _
      rw [show lo + ((hi - lo).toNat : Int) = hi by omega]
    · rw [if_neg z, if_neg (by omega)]
      rfl
end
/-! ### the numbers with the rest 0 -/
theorem bez_ex : ∀ (k : Nat) (a c : Int), 0 < c → c.toNat ≤ k → ∃ g u : Int, 0 < g ∧ g ∣ a ∧ g ∣ c ∧ c ∣ u * a - g
  | 0, a, c, h, hk => by omega
  | k + 1, a, c, h, hk => by
    have r0 := Int.emod_nonneg a (show c ≠ 0 by omega)
    have r1 := Int.emod_lt_of_pos a h
    have ea := Int.mul_ediv_add_emod a c
    by_cases z : a % c = 0
    · exact ⟨c, 0, h, Int.dvd_of_emod_eq_zero z, Int.dvd_refl _, by rw [Int.zero_mul, Int.zero_sub]; exact Int.dvd_neg.mpr (Int.dvd_refl _)⟩
    · obtain ⟨g, u, g0, g1, g2, t, e⟩ := bez_ex k c (a % c) (by omega) (by omega)
      refine ⟨g, -t, g0, ?_, g1, -u - t * (a / c), ?_⟩
      · rw [← ea]
        exact Int.dvd_add (Int.dvd_trans g1 (Int.dvd_mul_right ..)) g2
      · have e2 : g = u * c - a % c * t := by omega
        rw [e2]
        have e3 : -t * a = -t * (c * (a / c) + a % c) := by rw [ea]
        rw [e3, Int.mul_add, Int.mul_sub, Int.neg_mul, Int.neg_mul, Int.mul_neg, Int.mul_comm t (a % c), Int.mul_comm u c]
        have e4 : t * (c * (a / c)) = c * (t * (a / c)) := Int.mul_left_comm ..
        omega
section
variable {a b c g u lo f s α : Int}
theorem mem_non {x : Int} : Mem a b c .non x ↔ (a * x + b) % c = 0 := ⟨fun h => h.1, fun h => ⟨h, .inl rfl⟩⟩
theorem mem_int {x t : Int} : Mem a b c (.int t) x ↔ (a * x + b) % c = 0 ∧ (a * x + b) / c % 2 = t := by
  refine ⟨fun h => ⟨h.1, ?_⟩, fun h => ⟨h.1, .inr (by rw [h.2])⟩⟩
  rcases h.2 with z | z
  · cases z
  · injection z with z
    exact z.symm
theorem no_line (g0 : 0 < g) (ga : g ∣ a) (gc : g ∣ c) (hb : b % g ≠ 0) (side : D) : ∀ x, ¬ Mem a b c side x := fun x h => by
  apply hb
  have d := Int.dvd_trans gc (Int.dvd_of_emod_eq_zero h.1)
  have d2 : g ∣ a * x := Int.dvd_trans ga (Int.dvd_mul_right ..)
  have d3 := Int.dvd_sub d d2
  rw [Int.add_comm, Int.add_sub_cancel] at d3
  exact Int.emod_eq_zero_of_dvd d3
theorem ap_line (hc : 0 < c) (g0 : 0 < g) (ga : g ∣ a) (gc : g ∣ c) (hu : c ∣ u * a - g) (hb : b % g = 0) (lo : Int) : Ap (Mem a b c .non) lo (lo + (0 - b / g * u - lo) % (c / g)) (c / g) := by
  obtain ⟨a', rfl⟩ := ga
  obtain ⟨c', rfl⟩ := gc
  obtain ⟨b', rfl⟩ := Int.dvd_of_emod_eq_zero hb
  have gn : g ≠ 0 := by omega
  rw [Int.mul_ediv_cancel_left _ gn, Int.mul_ediv_cancel_left _ gn]
  have c0 : 0 < c' := by
    refine Int.not_le.mp fun z => ?_
    have := Int.mul_nonpos_of_nonneg_of_nonpos (show 0 ≤ g by omega) z
    omega
  have cn : c' ≠ 0 := by omega
  obtain ⟨k, ek⟩ := hu
  have eu : u * a' - 1 = c' * k := by
    refine Int.eq_of_mul_eq_mul_left gn ?_
    rw [← Int.mul_assoc, ← ek, Int.mul_sub, Int.mul_one, Int.mul_left_comm]
  have r0 := Int.emod_nonneg (0 - b' * u - lo) cn
  have r1 := Int.emod_lt_of_pos (0 - b' * u - lo) c0
  refine ⟨c0, by omega, by omega, fun x => ?_⟩
  rw [mem_non]
  have e1 : g * a' * x + g * b' = g * (a' * x + b') := by rw [Int.mul_add, Int.mul_assoc]
  have h1 : (g * a' * x + g * b') % (g * c') = 0 ↔ c' ∣ a' * x + b' := by
    rw [e1, Int.mul_emod_mul_of_pos _ _ g0]
    refine ⟨fun z => Int.dvd_of_emod_eq_zero ?_, fun z => by rw [Int.emod_eq_zero_of_dvd z, Int.mul_zero]⟩
    rcases Int.mul_eq_zero.mp z with z | z
    · exact absurd z gn
    · exact z
  have h2 : c' ∣ a' * x + b' ↔ c' ∣ x + b' * u := by
    constructor
    · rintro ⟨q, e⟩
      refine ⟨u * q - k * x, ?_⟩
      have e3 : u * (a' * x + b') = u * (c' * q) := by rw [e]
      rw [Int.mul_add, ← Int.mul_assoc, Int.mul_comm u b'] at e3
      have e4 : u * a' * x = (c' * k + 1) * x := by rw [← eu]; congr 1; omega
      rw [e4, Int.add_mul, Int.one_mul] at e3
      rw [Int.mul_sub, Int.mul_left_comm c' u q, ← Int.mul_assoc c' k x]
      omega
    · rintro ⟨q, e⟩
      refine ⟨a' * q - b' * k, ?_⟩
      have e3 : a' * (x + b' * u) = a' * (c' * q) := by rw [e]
      rw [Int.mul_add] at e3
      have e4 : a' * (b' * u) = b' * (c' * k + 1) := by rw [← eu, Int.mul_left_comm, Int.mul_comm a' u]; congr 1; omega
      rw [e4, Int.mul_add, Int.mul_one] at e3
      rw [Int.mul_sub, Int.mul_left_comm c' a' q, Int.mul_left_comm c' b' k]
      omega
  rw [h1, h2]
  have e5 := Int.mul_ediv_add_emod (0 - b' * u - lo) c'
  refine ⟨fun ⟨q, e⟩ => Int.emod_eq_zero_of_dvd ⟨q + (0 - b' * u - lo) / c', ?_⟩, fun z => ?_⟩
  · rw [Int.mul_add]
    omega
  · obtain ⟨q, e⟩ := Int.dvd_of_emod_eq_zero z
    refine ⟨q - (0 - b' * u - lo) / c', ?_⟩
    rw [Int.mul_sub]
    omega
theorem step_slope (hc : 0 < c) (h : Ap (Mem a b c .non) lo f s) : ∃ α, a * s = α * c := by
  obtain ⟨p, e1⟩ := Int.dvd_of_emod_eq_zero h.at0.1
  obtain ⟨q, e2⟩ := Int.dvd_of_emod_eq_zero h.at1.1
  refine ⟨q - p, ?_⟩
  rw [Int.mul_add] at e2
  rw [Int.sub_mul, Int.mul_comm q, Int.mul_comm p]
  omega
theorem ap_value (hc : 0 < c) (h : Ap (Mem a b c .non) lo f s) (e : a * s = α * c) (k : Int) : (a * (f + s * k) + b) / c = (a * f + b) / c + α * k := by
  rw [Int.mul_add, ← Int.mul_assoc, e, Int.mul_right_comm, Int.add_right_comm, Int.add_mul_ediv_right _ _ (show c ≠ 0 by omega)]
theorem ap_odd (hc : 0 < c) (h : Ap (Mem a b c .non) lo f s) (e : a * s = α * c) (ho : α % 2 = 1) {t : Int} (ht : t = 0 ∨ t = 1) : Ap (Mem a b c (.int t)) lo (if (a * f + b) / c % 2 = t then f else f + s) (2 * s) := by
  have s0 := h.s0
  have f0 := h.f0
  have f1 := h.f1
  refine ⟨by omega, by split <;> omega, by split <;> omega, fun x => ?_⟩
  rw [mem_int, ← mem_non, h.iff]
  constructor
  · rintro ⟨hx, hv⟩
    obtain ⟨k, ek⟩ := Int.dvd_of_emod_eq_zero hx
    have ex : x = f + s * k := by omega
    rw [ex, ap_value hc h e] at hv
    have hk : (α * k) % 2 = k % 2 := by rw [Int.mul_emod, ho, Int.one_mul, Int.emod_emod]
    split
    · rename_i z
      have k2 : k % 2 = 0 := by omega
      refine Int.emod_eq_zero_of_dvd ⟨k / 2, ?_⟩
      rw [show x - f = s * k from ek, Int.mul_comm 2 s, Int.mul_assoc, show 2 * (k / 2) = k by omega]
    · rename_i z
      have k2 : k % 2 = 1 := by omega
      refine Int.emod_eq_zero_of_dvd ⟨k / 2, ?_⟩
      rw [Int.mul_comm 2 s, Int.mul_assoc, show 2 * (k / 2) = k - 1 by omega, Int.mul_sub, Int.mul_one]
      omega
  · intro z
    obtain ⟨k, ek⟩ := Int.dvd_of_emod_eq_zero z
    rw [Int.mul_comm 2 s, Int.mul_assoc] at ek
    have hk2 : ∀ j : Int, (α * j) % 2 = j % 2 := fun j => by rw [Int.mul_emod, ho, Int.one_mul, Int.emod_emod]
    split at ek
    · rename_i y
      have ex : x = f + s * (2 * k) := by omega
      refine ⟨Int.emod_eq_zero_of_dvd ⟨2 * k, ek⟩, ?_⟩
      rw [ex, ap_value hc h e]
      have := hk2 (2 * k)
      omega
    · rename_i y
      have ex : x = f + s * (2 * k + 1) := by rw [Int.mul_add, Int.mul_one]; omega
      refine ⟨Int.emod_eq_zero_of_dvd ⟨2 * k + 1, by omega⟩, ?_⟩
      rw [ex, ap_value hc h e]
      have := hk2 (2 * k + 1)
      omega
theorem ap_even (hc : 0 < c) (h : Ap (Mem a b c .non) lo f s) (e : a * s = α * c) (he : α % 2 = 0) {t : Int} : ((a * f + b) / c % 2 = t → Ap (Mem a b c (.int t)) lo f s) ∧ ((a * f + b) / c % 2 ≠ t → ∀ x, ¬ Mem a b c (.int t) x) := by
  have hv : ∀ x, (x - f) % s = 0 → (a * x + b) / c % 2 = (a * f + b) / c % 2 := fun x hx => by
    obtain ⟨k, ek⟩ := Int.dvd_of_emod_eq_zero hx
    rw [show x = f + s * k by omega, ap_value hc h e]
    have : (α * k) % 2 = 0 := by rw [Int.mul_emod, he, Int.zero_mul]; rfl
    omega
  refine ⟨fun z => ⟨h.s0, h.f0, h.f1, fun x => ?_⟩, fun z x hx => ?_⟩
  · rw [mem_int, ← mem_non, h.iff]
    exact ⟨fun y => y.1, fun y => ⟨y, by rw [hv x y]; exact z⟩⟩
  · rw [mem_int, ← mem_non, h.iff] at hx
    exact z (by rw [← hv x hx.1]; exact hx.2)
/-- of either parity: the same, or every second one -/
theorem ap_own {f' s' t : Int} (hc : 0 < c) (h : Ap (Mem a b c .non) lo f s) (ht : t = 0 ∨ t = 1) (h' : Ap (Mem a b c (.int t)) lo f' s') : (f' = f ∨ f' = f + s) ∧ (s' = s ∨ s' = 2 * s) := by
  obtain ⟨α, e⟩ := step_slope hc h
  rcases (show α % 2 = 1 ∨ α % 2 = 0 by omega) with ho | he
  · obtain ⟨z1, z2⟩ := h'.uniq (ap_odd hc h e ho ht)
    refine ⟨?_, .inr z2⟩
    split at z1
    · exact .inl z1
    · exact .inr z1
  · by_cases z : (a * f + b) / c % 2 = t
    · obtain ⟨z1, z2⟩ := h'.uniq ((ap_even hc h e he).1 z)
      exact ⟨.inl z1, .inl z2⟩
    · exact absurd h'.at0 ((ap_even hc h e he).2 z _)
theorem ap_ex (hc : 0 < c) (lo : Int) {side : D} (hs : side = .non ∨ side = .int 0 ∨ side = .int 1) : (∀ x, ¬ Mem a b c side x) ∨ ∃ f s, Ap (Mem a b c side) lo f s ∧ s ≤ 2 * c := by
  obtain ⟨g, u, g0, ga, gc, hu⟩ := bez_ex _ a c hc (Nat.le_refl _)
  by_cases hb : b % g = 0
  · have h := ap_line (b := b) hc g0 ga gc hu hb lo
    obtain ⟨α, e⟩ := step_slope hc h
    have sc : c / g ≤ c := Int.ediv_le_self _ (by omega)
    have side_ : ∀ t : Int, (t = 0 ∨ t = 1) → (∀ x, ¬ Mem a b c (.int t) x) ∨ ∃ f s, Ap (Mem a b c (.int t)) lo f s ∧ s ≤ 2 * c := fun t ht => by
      rcases (show α % 2 = 1 ∨ α % 2 = 0 by omega) with ho | he
      · exact .inr ⟨_, _, ap_odd hc h e ho ht, by omega⟩
      · by_cases z : (a * (lo + (0 - b / g * u - lo) % (c / g)) + b) / c % 2 = t
        · exact .inr ⟨_, _, (ap_even hc h e he).1 z, by omega⟩
        · exact .inl ((ap_even hc h e he).2 z)
    rcases hs with rfl | rfl | rfl
    · exact .inr ⟨_, _, h, by omega⟩
    · exact side_ 0 (.inl rfl)
    · exact side_ 1 (.inr rfl)
  · exact .inl (no_line g0 ga gc hb side)
theorem res_ex (hc : 0 < c) (lo hi : Int) {side : D} (hs : side = .non ∨ side = .int 0 ∨ side = .int 1) : ∃ r, ResD (Mem a b c side) lo hi r := by
  rcases ap_ex (a := a) (b := b) hc lo hs with h | ⟨f, s, h, _⟩
  · exact ⟨_, .inl ⟨h, rfl⟩⟩
  · exact ⟨_, .inr ⟨f, s, h, rfl⟩⟩
end


/-! ### bits -/
theorem up_pow {i : Int} {k : Nat} (n : Nat) (h : i.natAbs < 2 ^ k) (hk : k ≤ n := by decide) : i.natAbs < 2 ^ n := Nat.lt_of_lt_of_le h (Nat.pow_le_pow_right (by decide) hk)
theorem add_pow {i j : Int} {k : Nat} (hi : i.natAbs < 2 ^ k) (hj : j.natAbs < 2 ^ k) : (i + j).natAbs < 2 ^ (k + 1) := by
  rw [Nat.pow_succ]
  omega
theorem mul_pow {i j : Int} {k l : Nat} (hi : i.natAbs < 2 ^ k) (hj : j.natAbs < 2 ^ l) : (i * j).natAbs < 2 ^ (k + l) := by
  rw [Int.natAbs_mul, Nat.pow_add]
  exact Nat.mul_lt_mul'' hi hj
theorem low_pow {i : Int} (n : Nat) (h : i.natAbs < 2 ^ 10) (hn : 10 ≤ n := by decide) : i.natAbs < 2 ^ n := up_pow n h hn
/-! ### powers of two by any whole number -/
def P2 (s : Int) : Int := 2 ^ s.toNat
theorem P2_pos (s : Int) : 0 < P2 s := Int.pow_pos (by decide)
theorem pow2_add (a b : Nat) : (2 : Int) ^ (a + b) = 2 ^ a * 2 ^ b := Int.pow_add ..
theorem P2_shift (s : Int) (k : Nat) : P2 (s + k) * P2 (-s) = 2 ^ k * (P2 s * P2 (-(s + k))) := by
  unfold P2
  rw [← pow2_add, ← pow2_add, ← pow2_add]
  congr 1
  omega
theorem P2_nat (a b : Nat) : (2 : Int) ^ a * P2 (-((a : Int) - b)) = 2 ^ b * P2 ((a : Int) - b) := by
  unfold P2
  rw [← pow2_add, ← pow2_add]
  congr 1
  omega

def P10 (s : Int) : Int := 10 ^ s.toNat
theorem P10_pos (s : Int) : 0 < P10 s := Int.pow_pos (by decide)
theorem P2_nn {s : Int} (h : s ≤ 0) : P2 s = 1 := by unfold P2; rw [show s.toNat = 0 by omega]; rfl
theorem P10_nn {s : Int} (h : s ≤ 0) : P10 s = 1 := by unfold P10; rw [show s.toNat = 0 by omega]; rfl
theorem P2_ofNat (n : Nat) : P2 (n : Int) = 2 ^ n := rfl
theorem P10_bits (s : Int) (n : Nat) (h : s ≤ n) : (P10 s).natAbs < 2 ^ (4 * n + 1) := by
  unfold P10
  rw [Int.natAbs_pow]
  have h1 : (10 : Nat) ^ s.toNat ≤ 16 ^ s.toNat := Nat.pow_le_pow_left (by decide) _
  have h2 : (16 : Nat) ^ s.toNat = 2 ^ (4 * s.toNat) := by rw [show (16 : Nat) = 2 ^ 4 from rfl, ← Nat.pow_mul]
  have h3 : (2 : Nat) ^ (4 * s.toNat) < 2 ^ (4 * n + 1) := Nat.pow_lt_pow_right (by decide) (by omega)
  show (10 : Nat) ^ s.toNat < _
  omega
theorem P2_bits (s : Int) (n : Nat) (h : s ≤ n) : (P2 s).natAbs < 2 ^ (n + 1) := by
  unfold P2
  rw [Int.natAbs_pow]
  exact Nat.pow_lt_pow_right (by decide) (by omega)
theorem shl_bits {i s : Int} {a b : Nat} (hi : i.natAbs < 2 ^ a) (hs : s ≤ b) : (i * P2 s).natAbs < 2 ^ (a + (b + 1)) := mul_pow hi (P2_bits s b hs)
theorem intBits_le {i : Int} {a : Nat} (hi : i.natAbs < 2 ^ a) : Builtin.Int.intBits i ≤ a := by
  unfold Builtin.Int.intBits
  split
  · omega
  · rename_i h
    have h0 : i.natAbs ≠ 0 := by
      intro z
      exact h (by simp; omega)
    have := (Nat.log2_lt h0).mpr hi
    omega
theorem shlOk {i s : Int} {a b : Nat} (hi : i.natAbs < 2 ^ a) (h0 : 0 ≤ s) (hs : s ≤ b) (h : a + b ≤ 134217728) : CShl i s := by
  refine ⟨h0, ?_⟩
  have := intBits_le hi
  have e : (2 : Int) ^ 27 = 134217728 := by decide
  omega
theorem natAbs_sub_pow {i j : Int} {k : Nat} (hi : i.natAbs < 2 ^ k) (hj : j.natAbs < 2 ^ k) : (i - j).natAbs < 2 ^ (k + 1) := by
  rw [Nat.pow_succ]
  omega
theorem div_bits {i j : Int} {k : Nat} (hi : i.natAbs < 2 ^ k) : (i / j).natAbs < 2 ^ k := Nat.lt_of_le_of_lt (Int.natAbs_ediv_le_natAbs i j) hi
theorem mod_bits {i j : Int} {k : Nat} (hj : 0 < j) (h : j.natAbs < 2 ^ k) : (i % j).natAbs < 2 ^ k := by
  have h3 := Int.emod_nonneg i (show j ≠ 0 by omega)
  have h4 := Int.emod_lt_of_pos i hj
  omega
/-- the lowest bits -/
theorem and_mask {w : Int} (k : Nat) (h : 0 ≤ w) : Builtin.bitAnd w (1 * 2 ^ k - 1) = w % 2 ^ k := by
  have e1 : ((2 ^ k : Nat) : Int) = 2 ^ k := by rw [Int.natCast_pow]; rfl
  have t : 0 < 2 ^ k := Nat.pow_pos (show 0 < 2 by decide)
  obtain ⟨n, rfl⟩ := Int.eq_ofNat_of_zero_le h
  have e2 : (1 : Int) * 2 ^ k - 1 = ((2 ^ k - 1 : Nat) : Int) := by rw [← e1]; omega
  rw [e2, ← e1]
  unfold Builtin.bitAnd
  rw [decide_eq_true (Int.natCast_nonneg n), decide_eq_true (Int.natCast_nonneg _)]
  show ((Int.toNat (n : Int) &&& Int.toNat ((2 ^ k - 1 : Nat) : Int) : Nat) : Int) = _
  rw [Int.toNat_natCast, Int.toNat_natCast, Nat.and_two_pow_sub_one_eq_mod]
  rfl


/-! ### lines of the laws: a, b, c of at most 1200 bits -/
structure Ln (a b c : Int) : Prop where
  c0 : 0 < c
  cb : c.natAbs < 2 ^ 991
  ab : a.natAbs < 2 ^ 1200
  bb : b.natAbs < 2 ^ 1200
theorem Ln.mul {a b c x : Int} (h : Ln a b c) (hx : x.natAbs < 2 ^ 300) : MulOk a x := mulOk 1200 300 h.ab hx (by decide)
theorem Ln.div {a b c x : Int} (h : Ln a b c) : DivOk x c := divOk 991 h.c0 h.cb (by decide)
theorem Ln.val {a b c x : Int} (h : Ln a b c) (hx : x.natAbs < 2 ^ 300) : ((a * x + b) / c).natAbs < 2 ^ 1501 := by
  have h1 : (a * x + b).natAbs < 2 ^ 1501 := add_pow (mul_pow h.ab hx) (up_pow 1500 h.bb)
  exact Nat.lt_of_le_of_lt (ediv_up h.c0) h1
theorem sumN_bd {B : Nat} {f : Nat → Int} : ∀ {n : Nat}, (∀ i, i < n → (f i).natAbs ≤ B) → (sumN n f).natAbs ≤ n * B
  | 0, _ => by show (0 : Int).natAbs ≤ _; omega
  | n + 1, h => by
    show (sumN n f + f n).natAbs ≤ _
    have h1 := sumN_bd (n := n) fun i hi => h i (by omega)
    have h2 := h n (by omega)
    rw [Nat.succ_mul]
    omega
/-- the values of a line over a range, by their numbers or from the range's own start -/
theorem line_move {a b c lo hi : Int} : sumN (hi - lo).toNat (fun k => (a * (lo + (k : Nat)) + b) / c) = lineN (hi - lo) a (b + a * lo) c := sumN_congr fun i _ => by
  rw [Int.mul_add, show a * lo + a * (i : Int) + b = a * (i : Int) + (b + a * lo) by omega]
theorem first_bd {a b c lo hi : Int} (h : Ln a b c) (hl : lo.natAbs < 2 ^ 200) (hd : (hi - lo).natAbs < 1000) : (t_first a b c lo hi).Bd := by
  refine ⟨⟨?_, h.c0⟩, bB_small ?_, bB_le h.ab, bB_le (k := 1401) ?_, bB_le h.cb⟩
  · show 0 ≤ (if hi - lo > 0 then hi - lo else 0)
    split <;> omega
  · show (if hi - lo > 0 then hi - lo else 0).natAbs < 1000
    split <;> omega
  · show (b + a * lo).natAbs < 2 ^ 1401
    exact add_pow (up_pow 1400 h.bb) (mul_pow h.ab hl)
theorem due_bd {a b c lo hi : Int} (h : Ln a b c) (hl : lo.natAbs < 2 ^ 200) (hd : (hi - lo).natAbs < 64) : (lineN (hi - lo) a (b + a * lo) c).natAbs < 2 ^ 1920 := by
  rw [← line_move]
  have e := sumN_bd (B := 2 ^ 1501) (n := (hi - lo).toNat) (f := fun k => (a * (lo + (k : Nat)) + b) / c) fun i hi => by
    have h1 : (lo + (i : Int)).natAbs < 2 ^ 300 := up_pow 300 (k := 201) (add_pow hl (low_pow 200 (by omega)))
    exact Nat.le_of_lt (h.val h1)
  have h2 : (hi - lo).toNat * 2 ^ 1501 ≤ 64 * 2 ^ 1501 := Nat.mul_le_mul_right _ (by omega)
  have h3 : 64 * 2 ^ 1501 < 2 ^ 1920 := by decide +kernel
  exact Nat.lt_of_le_of_lt e (Nat.lt_of_le_of_lt h2 h3)
theorem shLine {a b c : Int} (h : Ln a b c) : Sh 1 6000 (.tup [.int a, .int b, .int c]) := (sh_tup (n := 0) (c := 1921) fun d hd => by
  simp only [List.mem_cons, List.not_mem_nil, or_false] at hd
  rcases hd with rfl | rfl | rfl
  · exact sh_i (up_pow 1920 h.ab)
  · exact sh_i (up_pow 1920 h.bb)
  · exact sh_i (up_pow 1920 h.cb)).up (by decide) (show 3 * (1921 + 2) + 3 ≤ 6000 by decide)


/-! ### hits -/
def HitP (a b c l g : Int) (x : Int) : Prop := (a * x + b - l) % c ≤ (g - l) % c
noncomputable def hitN (a b c l g lo hi : Int) : Int := cntP (HitP a b c l g) lo (hi - lo).toNat
theorem hit_one {c w y : Int} (h : 0 < c) (w0 : 0 ≤ w) (w1 : w < c) : y / c = (y - w - 1) / c + if y % c ≤ w then 1 else 0 := by
  have e := Int.mul_ediv_add_emod y c
  have r0 := Int.emod_nonneg y (show c ≠ 0 by omega)
  have r1 := Int.emod_lt_of_pos y h
  split
  · have q : (y - w - 1) / c = y / c - 1 := by
      have e2 : y - w - 1 = (c + y % c - w - 1) + c * (y / c - 1) := by rw [Int.mul_sub, Int.mul_one]; omega
      have q : ((c + y % c - w - 1) + c * (y / c - 1)) / c = y / c - 1 := by
        rw [Int.add_mul_ediv_left _ _ (show c ≠ 0 by omega), Int.ediv_eq_zero_of_lt (by omega) (by omega), Int.zero_add]
      rw [← e2] at q
      exact q
    omega
  · have q : (y - w - 1) / c = y / c := by
      have e2 : y - w - 1 = (y % c - w - 1) + c * (y / c) := by omega
      have q : ((y % c - w - 1) + c * (y / c)) / c = y / c := by
        rw [Int.add_mul_ediv_left _ _ (show c ≠ 0 by omega), Int.ediv_eq_zero_of_lt (by omega) (by omega), Int.zero_add]
      rw [← e2] at q
      exact q
    omega
theorem hits_sum {a b c l g lo hi : Int} (h : 0 < c) : lineN (hi - lo) a (b - l + a * lo) c - lineN (hi - lo) a (b - l - (g - l) % c - 1 + a * lo) c = hitN a b c l g lo hi := by
  rw [← line_move, ← line_move]
  have w0 := Int.emod_nonneg (g - l) (show c ≠ 0 by omega)
  have w1 := Int.emod_lt_of_pos (g - l) h
  have e : sumN (hi - lo).toNat (fun k => (a * (lo + (k : Nat)) + (b - l)) / c) = sumN (hi - lo).toNat (fun k => (a * (lo + (k : Nat)) + (b - l - (g - l) % c - 1)) / c) + hitN a b c l g lo hi := by
    unfold hitN cntP
    rw [← sumN_add]
    refine sumN_congr fun k _ => ?_
    have z := hit_one (y := a * (lo + (k : Nat)) + (b - l)) h w0 w1
    rw [show a * (lo + (k : Nat)) + (b - l) - (g - l) % c - 1 = a * (lo + (k : Nat)) + (b - l - (g - l) % c - 1) by omega] at z
    rw [z]
    congr 1
    by_cases p : (a * (lo + (k : Nat)) + (b - l)) % c ≤ (g - l) % c
    · have p2 : HitP a b c l g (lo + (k : Nat)) := by
        unfold HitP
        rw [show a * (lo + (k : Nat)) + b - l = a * (lo + (k : Nat)) + (b - l) by omega]
        exact p
      rw [if_pos p, if_pos p2]
    · have p2 : ¬ HitP a b c l g (lo + (k : Nat)) := by
        unfold HitP
        rw [show a * (lo + (k : Nat)) + b - l = a * (lo + (k : Nat)) + (b - l) by omega]
        exact p
      rw [if_neg p, if_neg p2]
  omega
theorem cntP_nn {P : Int → Prop} {lo : Int} : ∀ n : Nat, 0 ≤ cntP P lo n
  | 0 => Int.le_refl _
  | n + 1 => by
    rw [cntP_s]
    have := cntP_nn (P := P) (lo := lo) n
    split <;> omega
theorem cntP_zero {P : Int → Prop} {lo : Int} : ∀ n : Nat, cntP P lo n = 0 ↔ ∀ k : Nat, k < n → ¬ P (lo + (k : Nat))
  | 0 => ⟨fun _ k h => by omega, fun _ => rfl⟩
  | n + 1 => by
    rw [cntP_s]
    have nn := cntP_nn (P := P) (lo := lo) n
    refine ⟨fun h k hk p => ?_, fun h => ?_⟩
    · have h1 : cntP P lo n = 0 := by split at h <;> omega
      by_cases e : k = n
      · subst e
        rw [if_pos p] at h
        omega
      · exact (cntP_zero n).mp h1 k (by omega) p
    · rw [(cntP_zero n).mpr fun k hk => h k (by omega), if_neg (h n (by omega))]
      rfl
theorem hit0 {a b c x : Int} (h : 0 < c) : HitP a b c 0 0 x ↔ Mem a b c .non x := by
  unfold HitP
  rw [mem_non, Int.sub_zero, show ((0 : Int) - 0) % c = 0 from Int.zero_emod _]
  have := Int.emod_nonneg (a * x + b) (show c ≠ 0 by omega)
  omega
structure HitOk (a b c l g lo hi : Int) : Prop where
  c0 : 0 < c
  mo : MulOk a lo
  b1 : (t_first a (b - l) c lo hi).Bd
  b2 : (t_first a (b - l - (g - l) % c - 1) c lo hi).Bd
theorem first_mono {a b c lo hi x : Int} (h : (t_first a b c lo hi).Bd) (hx : x ≤ hi) : (t_first a b c lo x).Bd := by
  have nb : (if hi - lo > 0 then hi - lo else 0).natAbs < bB := h.nb
  refine ⟨⟨?_, h.c0⟩, ?_, h.ab, h.bb, h.cb⟩
  · show 0 ≤ (if x - lo > 0 then x - lo else 0)
    split <;> omega
  · show (if x - lo > 0 then x - lo else 0).natAbs < bB
    revert nb
    generalize bB = B
    intro nb
    split at nb <;> split <;> omega
theorem HitOk.to {a b c l g lo hi x : Int} (h : HitOk a b c l g lo hi) (hx : x ≤ hi) : HitOk a b c l g lo x := ⟨h.c0, h.mo, first_mono h.b1 hx, first_mono h.b2 hx⟩
/-- what halving finds -/
structure Halved (g : Int → Int) (lo hi idx r : Int) : Prop where
  r0 : lo ≤ r
  r1 : r < hi ∨ r = lo
  below : r = lo ∨ g r ≤ idx
  above : hi ≤ r + 1 ∨ idx < g (r + 1)
def FirstD (P : Int → Prop) (lo hi : Int) (res : D) : Prop := ((∀ x, lo ≤ x → x < hi → ¬ P x) ∧ res = .non) ∨ ∃ r, lo ≤ r ∧ r < hi ∧ P r ∧ (∀ x, lo ≤ x → x < r → ¬ P x) ∧ res = .int r
theorem first_of {P : Int → Prop} {lo hi r : Int} (h : Halved (fun x => cntP P lo (x - lo).toNat) lo hi 0 r) (pos : 0 < cntP P lo (hi - lo).toNat) : lo ≤ r ∧ r < hi ∧ P r ∧ ∀ x, lo ≤ x → x < r → ¬ P x := by
  have lh : lo < hi := by
    refine Int.not_le.mp fun z => ?_
    rw [show (hi - lo).toNat = 0 by omega] at pos
    exact absurd pos (by show ¬ (0 : Int) < 0; omega)
  have r0 := h.r0
  have r1 : r < hi := h.r1.elim id fun z => by omega
  have none : ∀ x, lo ≤ x → x < r → ¬ P x := fun x x0 x1 => by
    rcases h.below with z | z
    · omega
    · have z : cntP P lo (r - lo).toNat ≤ 0 := z
      have e := (cntP_zero _).mp (Int.le_antisymm z (cntP_nn _)) (x - lo).toNat (by omega)
      rw [show lo + ((x - lo).toNat : Int) = x by omega] at e
      exact e
  have pr : 0 < cntP P lo (r + 1 - lo).toNat := by
    rcases h.above with z | z
    · rw [show r + 1 - lo = hi - lo by omega]
      exact pos
    · exact z
  refine ⟨r0, r1, Classical.byContradiction fun np => ?_, none⟩
  have e := (cntP_zero (P := P) (lo := lo) (r + 1 - lo).toNat).mpr fun k hk p => by
    by_cases z : lo + (k : Int) = r
    · rw [z] at p
      exact np p
    · exact none _ (by omega) (by omega) p
  omega
/-! ### members found one by one -/
structure Fil (P : Int → Prop) (lo : Int) (i : Nat) (L : List Int) : Prop where
  len : (L.length : Int) = cntP P lo i
  none : L = [] → ∀ x, lo ≤ x → x < lo + i → ¬ P x
  head : ∀ x r, L = x :: r → P x ∧ lo ≤ x ∧ x < lo + i ∧ ∀ y, lo ≤ y → y < x → ¬ P y
theorem Fil.nil {P : Int → Prop} {lo : Int} : Fil P lo 0 [] := ⟨rfl, fun _ x h1 h2 => by omega, fun x r e => (nomatch e)⟩
theorem Fil.add {P : Int → Prop} {lo : Int} {i : Nat} {L : List Int} (h : Fil P lo i L) (p : P (lo + (i : Nat))) : Fil P lo (i + 1) (L ++ [lo + (i : Nat)]) := by
  refine ⟨?_, fun e => ?_, fun x r e => ?_⟩
  · rw [List.length_append, cntP_s, if_pos p, ← h.len]
    show ((L.length + 1 : Nat) : Int) = _
    omega
  · exact absurd e (by simp)
  · cases L with
    | nil =>
      rw [List.nil_append] at e
      injection e with e1 e2
      subst e1
      exact ⟨p, by omega, by omega, fun y y0 y1 => h.none rfl y y0 y1⟩
    | cons z L =>
      injection e with e1 e2
      subst e1
      obtain ⟨q1, q2, q3, q4⟩ := h.head _ _ rfl
      exact ⟨q1, q2, by omega, q4⟩
theorem Fil.skip {P : Int → Prop} {lo : Int} {i : Nat} {L : List Int} (h : Fil P lo i L) (p : ¬ P (lo + (i : Nat))) : Fil P lo (i + 1) L := by
  refine ⟨?_, fun e x h1 h2 => ?_, fun x r e => ?_⟩
  · rw [cntP_s, if_neg p, h.len, Int.add_zero]
  · by_cases z : x = lo + (i : Nat)
    · rw [z]; exact p
    · exact h.none e x h1 (by omega)
  · obtain ⟨q1, q2, q3, q4⟩ := h.head _ _ e
    exact ⟨q1, q2, by omega, q4⟩
theorem first_uniq {P : Int → Prop} {lo x y : Int} (h : P x ∧ lo ≤ x ∧ ∀ z, lo ≤ z → z < x → ¬ P z) (h' : P y ∧ lo ≤ y ∧ ∀ z, lo ≤ z → z < y → ¬ P z) : x = y := by
  rcases Int.lt_trichotomy x y with z | z | z
  · exact absurd h.1 (h'.2.2 _ h.2.1 z)
  · exact z
  · exact absurd h'.1 (h.2.2 _ h'.2.1 z)
/-- the distance to the next one -/
theorem Ap.next {P : Int → Prop} {lo f s : Int} (h : Ap P lo f s) : P (f + s) ∧ f + 1 ≤ f + s ∧ ∀ z, f + 1 ≤ z → z < f + s → ¬ P z := by
  have s0 := h.s0
  refine ⟨h.at1, by omega, fun z z0 z1 p => ?_⟩
  have e := (h.iff z).mp p
  rw [Int.emod_eq_of_lt (by omega) (by omega)] at e
  omega
theorem cnt_split {a b c lo : Int} : ∀ n : Nat, cntP (Mem a b c .non) lo n = cntP (Mem a b c (.int 0)) lo n + cntP (Mem a b c (.int 1)) lo n
  | 0 => rfl
  | n + 1 => by
    rw [cntP_s, cntP_s, cntP_s, cnt_split n]
    have e0 := mem_int (a := a) (b := b) (c := c) (x := lo + (n : Nat)) (t := 0)
    have e1 := mem_int (a := a) (b := b) (c := c) (x := lo + (n : Nat)) (t := 1)
    have e2 := mem_non (a := a) (b := b) (c := c) (x := lo + (n : Nat))
    by_cases h : (a * (lo + (n : Nat)) + b) % c = 0
    · rw [if_pos (e2.mpr h)]
      rcases (show (a * (lo + (n : Nat)) + b) / c % 2 = 0 ∨ (a * (lo + (n : Nat)) + b) / c % 2 = 1 by omega) with z | z
      · rw [if_pos (e0.mpr ⟨h, z⟩), if_neg (fun y => by have := (e1.mp y).2; omega)]
        omega
      · rw [if_neg (fun y => by have := (e0.mp y).2; omega), if_pos (e1.mpr ⟨h, z⟩)]
        omega
    · rw [if_neg (fun y => h (e2.mp y)), if_neg (fun y => h (e0.mp y).1), if_neg (fun y => h (e1.mp y).1)]
      omega


/-! ### the list of those that a range holds -/
noncomputable def filL (P : Int → Prop) (lo : Int) : Nat → List Int
  | 0 => []
  | n + 1 => filL P lo n ++ @ite _ (P (lo + (n : Nat))) (Classical.propDecidable _) [lo + (n : Nat)] []
theorem filL_s {P : Int → Prop} {lo : Int} (n : Nat) : filL P lo (n + 1) = filL P lo n ++ @ite _ (P (lo + (n : Nat))) (Classical.propDecidable _) [lo + (n : Nat)] [] := rfl
theorem filL_len {P : Int → Prop} {lo : Int} : ∀ n : Nat, ((filL P lo n).length : Int) = cntP P lo n
  | 0 => rfl
  | n + 1 => by
    rw [filL_s, cntP_s, List.length_append, ← filL_len n]
    split
    · show (((filL P lo n).length + 1 : Nat) : Int) = _
      omega
    · show (((filL P lo n).length + 0 : Nat) : Int) = _
      omega
theorem filL_add {P : Int → Prop} {lo : Int} {n : Nat} : ∀ m : Nat, filL P lo (n + m) = filL P lo n ++ filL P (lo + (n : Nat)) m
  | 0 => (List.append_nil _).symm
  | m + 1 => by
    rw [← Nat.add_assoc, filL_s, filL_s, filL_add m, List.append_assoc, show lo + ((n + m : Nat) : Int) = lo + (n : Nat) + (m : Nat) by omega]
theorem filL_congr {P P' : Int → Prop} {lo : Int} : ∀ {n : Nat}, (∀ k : Nat, k < n → (P (lo + (k : Nat)) ↔ P' (lo + (k : Nat)))) → filL P lo n = filL P' lo n
  | 0, _ => rfl
  | n + 1, h => by
    rw [filL_s, filL_s, filL_congr fun k hk => h k (by omega)]
    by_cases p : P (lo + (n : Nat))
    · rw [if_pos p, if_pos ((h n (by omega)).mp p)]
    · rw [if_neg p, if_neg fun q => p ((h n (by omega)).mpr q)]
theorem filL_cat {P : Int → Prop} {lo m hi : Int} (h1 : lo ≤ m) (h2 : m ≤ hi) : filL P lo (m - lo).toNat ++ filL P m (hi - m).toNat = filL P lo (hi - lo).toNat := by
  rw [show (hi - lo).toNat = (m - lo).toNat + (hi - m).toNat by omega, filL_add, show lo + ((m - lo).toNat : Int) = m by omega]
theorem filL_get {P : Int → Prop} {lo : Int} {n k : Nat} (hk : k < n) (p : P (lo + (k : Nat))) : (filL P lo n)[(filL P lo k).length]? = some (lo + (k : Nat)) := by
  obtain ⟨m, rfl⟩ : ∃ m, n = (k + 1) + m := ⟨n - (k + 1), by omega⟩
  rw [filL_add, filL_s, if_pos p, List.append_assoc, List.getElem?_append_right (Nat.le_refl _), Nat.sub_self]
  rfl
/-! ### lines, where they differ, and parts of a range -/
structure L3 where
  a : Int
  b : Int
  c : Int
def L3.d (l : L3) : D := .tup [.int l.a, .int l.b, .int l.c]
def L3.v (l : L3) (x : Int) : Int := (l.a * x + l.b) / l.c
structure L3.Ok (l : L3) : Prop where
  c0 : 0 < l.c
  cb : l.c.natAbs < 2 ^ 1010
  ab : l.a.natAbs < 2 ^ 1310
  bb : l.b.natAbs < 2 ^ 1310
/-- narrower ones -/
structure L3.Sm (l : L3) : Prop where
  c0 : 0 < l.c
  cb : l.c.natAbs < 2 ^ 1000
  ab : l.a.natAbs < 2 ^ 1300
  bb : l.b.natAbs < 2 ^ 1300
theorem L3.Sm.ok {l : L3} (h : l.Sm) : l.Ok := ⟨h.c0, up_pow 1010 h.cb, up_pow 1310 h.ab, up_pow 1310 h.bb⟩
theorem L3.Ok.dv {l : L3} (h : l.Ok) {x : Int} : DivOk x l.c := divOk 1010 h.c0 h.cb (by decide)
def Dif (o t : L3) (x : Int) : Prop := o.v x ≠ t.v x
theorem dif_comm {o t : L3} {x : Int} : Dif o t x ↔ Dif t o x := ⟨fun h => Ne.symm h, fun h => Ne.symm h⟩
structure Pt where
  lo : Int
  hi : Int
  l : L3
  u : L3
  far : Bool
def Pt.d (p : Pt) : D := .tup [p.l.d, p.u.d, .int p.lo, .int p.hi, .bl p.far]
noncomputable def Pt.due (p : Pt) : List Int := filL (Dif p.l p.u) p.lo (p.hi - p.lo).toNat
noncomputable def Pt.cnt (p : Pt) (x : Int) : Int := cntP (Dif p.l p.u) p.lo (x - p.lo).toNat
noncomputable def Pt.many (p : Pt) : Int := p.cnt p.hi
def Pt.At (p : Pt) (x : Int) : Prop := if p.far then Dif p.l p.u x else p.u.v x = p.l.v x ∨ p.u.v x = p.l.v x + 1
structure Pt.Ok (p : Pt) : Prop where
  lk : p.l.Ok
  uk : p.u.Ok
  le : p.lo ≤ p.hi
  lb : p.lo.natAbs < 2 ^ 210
  hb : p.hi.natAbs < 2 ^ 210
  all : ∀ x, p.lo ≤ x → x < p.hi → p.At x
theorem Pt.due_len {p : Pt} : (p.due.length : Int) = p.many := filL_len _
structure Parts (o t : L3) (lo hi : Int) (ps : List Pt) : Prop where
  ok : ∀ p ∈ ps, p.Ok
  len : ps.length = 4
  due : ps.flatMap Pt.due = filL (Dif o t) lo (hi - lo).toNat
theorem due_at {p : Pt} {idx r : Int} (ok : p.Ok) (h : Halved p.cnt p.lo p.hi idx r) (i0 : 0 ≤ idx) (i1 : idx < p.many) : p.due[idx.toNat]? = some r := by
  have lh : p.lo < p.hi := by
    refine Int.not_le.mp fun z => ?_
    have : p.many = 0 := by
      unfold Pt.many Pt.cnt
      rw [show (p.hi - p.lo).toNat = 0 by omega]
      rfl
    omega
  have r0 := h.r0
  have r1 : r < p.hi := h.r1.elim id fun z => by omega
  have c0 : p.cnt r ≤ idx := by
    rcases h.below with z | z
    · unfold Pt.cnt
      rw [z, Int.sub_self]
      exact i0
    · exact z
  have c1 : idx < p.cnt (r + 1) := by
    rcases h.above with z | z
    · rw [show r + 1 = p.hi by omega]
      exact i1
    · exact z
  have e : p.cnt (r + 1) = p.cnt r + @ite Int (Dif p.l p.u r) (Classical.propDecidable _) 1 0 := by
    unfold Pt.cnt
    rw [show (r + 1 - p.lo).toNat = (r - p.lo).toNat + 1 by omega, cntP_s, show p.lo + ((r - p.lo).toNat : Int) = r by omega]
  by_cases q : Dif p.l p.u r
  · rw [if_pos q] at e
    have g := filL_get (P := Dif p.l p.u) (lo := p.lo) (n := (p.hi - p.lo).toNat) (k := (r - p.lo).toNat) (by omega) (by rw [show p.lo + ((r - p.lo).toNat : Int) = r by omega]; exact q)
    have l := filL_len (P := Dif p.l p.u) (lo := p.lo) (r - p.lo).toNat
    have l2 : ((filL (Dif p.l p.u) p.lo (r - p.lo).toNat).length : Int) = p.cnt r := l
    rw [show p.lo + ((r - p.lo).toNat : Int) = r by omega, show (filL (Dif p.l p.u) p.lo (r - p.lo).toNat).length = idx.toNat by omega] at g
    exact g
  · rw [if_neg q] at e
    omega
/-- counting by the sums -/
theorem sum_near {p : Pt} (h : p.Ok) (nf : p.far = false) {e : Int} (he : e ≤ p.hi) : lineN (e - p.lo) p.u.a (p.u.b + p.u.a * p.lo) p.u.c - lineN (e - p.lo) p.l.a (p.l.b + p.l.a * p.lo) p.l.c = p.cnt e := by
  rw [← line_move, ← line_move]
  have s : sumN (e - p.lo).toNat (fun k => (p.u.a * (p.lo + (k : Nat)) + p.u.b) / p.u.c) = sumN (e - p.lo).toNat (fun k => (p.l.a * (p.lo + (k : Nat)) + p.l.b) / p.l.c) + p.cnt e := by
    unfold Pt.cnt cntP
    rw [← sumN_add]
    refine sumN_congr fun k hk => ?_
    have a := h.all (p.lo + (k : Nat)) (by omega) (by omega)
    unfold Pt.At at a
    rw [nf, if_neg (by decide)] at a
    show p.u.v (p.lo + (k : Nat)) = p.l.v (p.lo + (k : Nat)) + _
    by_cases q : Dif p.l p.u (p.lo + (k : Nat))
    · rw [if_pos q]
      exact a.elim (fun z => absurd z.symm q) id
    · rw [if_neg q, Int.add_zero]
      exact (Classical.not_not.mp q).symm
  omega
theorem sum_far {p : Pt} (h : p.Ok) (f : p.far = true) {e : Int} (he : e ≤ p.hi) (hl : p.lo ≤ e) : e - p.lo = p.cnt e := by
  unfold Pt.cnt cntP
  rw [sumN_congr (g := fun _ => 1) fun k hk => ?_, sumN_const]
  · omega
  · have a := h.all (p.lo + (k : Nat)) (by omega) (by omega)
    unfold Pt.At at a
    rw [f, if_pos rfl] at a
    rw [if_pos a]
theorem L3.Ok.bd {l : L3} (h : l.Ok) {lo hi : Int} (hl : lo.natAbs < 2 ^ 210) (hh : hi.natAbs < 2 ^ 210) : (t_first l.a l.b l.c lo hi).Bd := by
  refine ⟨⟨?_, h.c0⟩, bB_le (k := 211) ?_, bB_le h.ab, bB_le (k := 1521) ?_, bB_le h.cb⟩
  · show 0 ≤ (if hi - lo > 0 then hi - lo else 0)
    split <;> omega
  · show (if hi - lo > 0 then hi - lo else 0).natAbs < 2 ^ 211
    split <;> omega
  · show (l.b + l.a * lo).natAbs < 2 ^ 1521
    exact add_pow (up_pow 1520 h.bb) (mul_pow h.ab hl)
theorem L3.Ok.mo {l : L3} (h : l.Ok) {x : Int} (hl : x.natAbs < 2 ^ 210) : MulOk l.a x := mulOk 1310 210 h.ab hl (by decide)
/-! ### cutting the range -/
def difL (o t : L3) : L3 := ⟨t.a * o.c - o.a * t.c, t.b * o.c - o.b * t.c, o.c * t.c⟩
def fromI (a b least lo hi : Int) : Int := if a = 0 then (if b ≥ least then lo else hi) else if (if 0 - (b - least) / a > lo then 0 - (b - least) / a else lo) < hi then (if 0 - (b - least) / a > lo then 0 - (b - least) / a else lo) else hi
structure FromI (a b least lo hi e : Int) : Prop where
  e0 : lo ≤ e
  e1 : e ≤ hi
  below : ∀ x, lo ≤ x → x < e → a * x + b < least
  above : ∀ x, e ≤ x → x < hi → least ≤ a * x + b
theorem from_ok {a b least lo hi : Int} (a0 : 0 ≤ a) (lh : lo ≤ hi) {e : Int} (he : e = fromI a b least lo hi) : FromI a b least lo hi e := by
  unfold fromI at he
  by_cases z : a = 0
  · rw [if_pos z] at he
    subst z
    split at he
    · next g => subst he; exact ⟨Int.le_refl _, lh, fun x x0 x1 => by omega, fun x x0 x1 => by rw [Int.zero_mul]; omega⟩
    · next g => subst he; exact ⟨lh, Int.le_refl _, fun x x0 x1 => by rw [Int.zero_mul]; omega, fun x x0 x1 => by omega⟩
  · rw [if_neg z] at he
    have ap : 0 < a := by omega
    have d := Int.mul_ediv_add_emod (b - least) a
    have r0 := Int.emod_nonneg (b - least) z
    have r1 := Int.emod_lt_of_pos (b - least) ap
    revert d r0 r1 he
    generalize (b - least) / a = q
    generalize (b - least) % a = r
    intro he d r0 r1
    have k : e = (if (if 0 - q > lo then 0 - q else lo) < hi then (if 0 - q > lo then 0 - q else lo) else hi) := he
    clear he
    refine ⟨?_, ?_, fun x x0 x1 => ?_, fun x x0 x1 => ?_⟩
    · split at k <;> split at k <;> omega
    · split at k <;> split at k <;> omega
    · have xq : x ≤ 0 - q - 1 := by split at k <;> split at k <;> omega
      have := Int.mul_le_mul_of_nonneg_left xq a0
      rw [Int.mul_sub, Int.mul_sub, Int.mul_one, Int.mul_zero] at this
      omega
    · have xq : 0 - q ≤ x := by split at k <;> split at k <;> omega
      have := Int.mul_le_mul_of_nonneg_left xq a0
      rw [Int.mul_sub, Int.mul_zero] at this
      omega
theorem fl_le {u c w f : Int} (c0 : 0 < c) (f0 : 0 < f) (h : f * u ≤ c * w) : u / c ≤ w / f := by
  refine (Int.le_ediv_iff_mul_le f0).mpr ?_
  have e := Int.mul_ediv_add_emod u c
  have r := Int.emod_nonneg u (show c ≠ 0 by omega)
  have h1 : c * (u / c) ≤ u := by omega
  have h2 := Int.mul_le_mul_of_nonneg_left h1 (show 0 ≤ f by omega)
  have h3 : c * (u / c * f) ≤ c * w := by
    rw [show c * (u / c * f) = f * (c * (u / c)) by rw [Int.mul_comm (u / c) f, Int.mul_left_comm]]
    omega
  exact Int.le_of_mul_le_mul_left h3 c0
theorem fl_up {u c : Int} (c0 : 0 < c) : (u + c) / c = u / c + 1 := by
  have := Int.add_mul_ediv_left u 1 (show c ≠ 0 by omega)
  rw [Int.mul_one] at this
  exact this
theorem dif_val {o t : L3} {x : Int} : (difL o t).a * x + (difL o t).b = o.c * (t.a * x + t.b) - t.c * (o.a * x + o.b) := by
  show (t.a * o.c - o.a * t.c) * x + (t.b * o.c - o.b * t.c) = _
  rw [Int.sub_mul, Int.mul_add, Int.mul_add, Int.mul_comm t.a o.c, Int.mul_comm o.a t.c, Int.mul_comm t.b, Int.mul_comm o.b, Int.mul_assoc, Int.mul_assoc]
  omega
theorem dif_far0 {o t : L3} {x : Int} (ho : 0 < o.c) (ht : 0 < t.c) (h : (difL o t).a * x + (difL o t).b < 1 - (difL o t).c) : Dif t o x := by
  rw [dif_val] at h
  have h : o.c * (t.a * x + t.b) - t.c * (o.a * x + o.b) < 1 - o.c * t.c := h
  have k := fl_le (u := (t.a * x + t.b) + t.c) (c := t.c) (w := o.a * x + o.b) (f := o.c) ht ho (by rw [Int.mul_add o.c (t.a * x + t.b) t.c]; omega)
  rw [fl_up ht] at k
  intro z
  have z : (t.a * x + t.b) / t.c = (o.a * x + o.b) / o.c := z
  omega
theorem dif_near0 {o t : L3} {x : Int} (ho : 0 < o.c) (ht : 0 < t.c) (h : 1 - (difL o t).c ≤ (difL o t).a * x + (difL o t).b) (h2 : (difL o t).a * x + (difL o t).b < 0) : o.v x = t.v x ∨ o.v x = t.v x + 1 := by
  rw [dif_val] at h h2
  have h : 1 - o.c * t.c ≤ o.c * (t.a * x + t.b) - t.c * (o.a * x + o.b) := h
  have k1 := fl_le (u := t.a * x + t.b) (c := t.c) (w := o.a * x + o.b) (f := o.c) ht ho (by omega)
  have k2 := fl_le (u := o.a * x + o.b) (c := o.c) (w := t.a * x + t.b + t.c) (f := t.c) ho ht (by rw [Int.mul_add o.c (t.a * x + t.b) t.c]; omega)
  rw [fl_up ht] at k2
  show (o.a * x + o.b) / o.c = (t.a * x + t.b) / t.c ∨ (o.a * x + o.b) / o.c = (t.a * x + t.b) / t.c + 1
  omega
theorem dif_near1 {o t : L3} {x : Int} (ho : 0 < o.c) (ht : 0 < t.c) (h : 0 ≤ (difL o t).a * x + (difL o t).b) (h2 : (difL o t).a * x + (difL o t).b < (difL o t).c) : t.v x = o.v x ∨ t.v x = o.v x + 1 := by
  rw [dif_val] at h h2
  have h2 : o.c * (t.a * x + t.b) - t.c * (o.a * x + o.b) < o.c * t.c := h2
  have k1 := fl_le (u := o.a * x + o.b) (c := o.c) (w := t.a * x + t.b) (f := t.c) ho ht (by omega)
  have k2 := fl_le (u := t.a * x + t.b) (c := t.c) (w := o.a * x + o.b + o.c) (f := o.c) ht ho (by rw [Int.mul_add t.c (o.a * x + o.b) o.c, Int.mul_comm t.c o.c]; omega)
  rw [fl_up ho] at k2
  show (t.a * x + t.b) / t.c = (o.a * x + o.b) / o.c ∨ (t.a * x + t.b) / t.c = (o.a * x + o.b) / o.c + 1
  omega
theorem dif_far1 {o t : L3} {x : Int} (ho : 0 < o.c) (ht : 0 < t.c) (h : (difL o t).c ≤ (difL o t).a * x + (difL o t).b) : Dif o t x := by
  rw [dif_val] at h
  have h : o.c * t.c ≤ o.c * (t.a * x + t.b) - t.c * (o.a * x + o.b) := h
  have k := fl_le (u := (o.a * x + o.b) + o.c) (c := o.c) (w := t.a * x + t.b) (f := t.c) ho ht (by rw [Int.mul_add t.c (o.a * x + o.b) o.c, Int.mul_comm t.c o.c]; omega)
  rw [fl_up ho] at k
  intro z
  have z : (o.a * x + o.b) / o.c = (t.a * x + t.b) / t.c := z
  omega
theorem sub_pow {i j : Int} {k : Nat} (hi : i.natAbs < 2 ^ k) (hj : j.natAbs < 2 ^ k) : (i - j).natAbs < 2 ^ (k + 1) := add_pow hi (show (-j).natAbs < 2 ^ k by rw [Int.natAbs_neg]; exact hj)
def maxI (a b : Int) : Int := if b > a then b else a
theorem cut_parts {o t : L3} {lo hi e1 e2 e3 : Int} (ho : o.Ok) (ht : t.Ok) (lb : lo.natAbs < 2 ^ 210) (hb : hi.natAbs < 2 ^ 210) (lh : lo ≤ hi)
    (h1 : FromI (difL o t).a (difL o t).b (1 - (difL o t).c) lo hi e1) (h2 : FromI (difL o t).a (difL o t).b 0 lo hi e2) (h3 : FromI (difL o t).a (difL o t).b (difL o t).c lo hi e3) :
    Parts o t lo hi [⟨lo, e1, t, o, true⟩, ⟨e1, e2, t, o, false⟩, ⟨e2, e3, o, t, false⟩, ⟨e3, hi, o, t, true⟩] := by
  have cp : 0 < (difL o t).c := Int.mul_pos ho.c0 ht.c0
  have e12 : e1 ≤ e2 := by
    refine Int.not_lt.mp fun z => ?_
    have a := h2.above e2 (Int.le_refl _) (by have := h1.e1; omega)
    have b := h1.below e2 h2.e0 z
    omega
  have e23 : e2 ≤ e3 := by
    refine Int.not_lt.mp fun z => ?_
    have a := h3.above e3 (Int.le_refl _) (by have := h2.e1; omega)
    have b := h2.below e3 h3.e0 z
    omega
  have q1 := h1.e0
  have q2 := h1.e1
  have q3 := h2.e0
  have q4 := h2.e1
  have q5 := h3.e0
  have q6 := h3.e1
  have mid : ∀ e : Int, lo ≤ e → e ≤ hi → e.natAbs < 2 ^ 210 := fun e x y => by
    revert lb hb
    generalize (2 : Nat) ^ 210 = B
    intro lb hb
    omega
  refine ⟨fun p hp => ?_, rfl, ?_⟩
  · simp only [List.mem_cons, List.not_mem_nil, or_false] at hp
    rcases hp with rfl | rfl | rfl | rfl
    · exact ⟨ht, ho, q1, lb, mid _ q1 q2, fun x x0 x1 => dif_far0 ho.c0 ht.c0 (h1.below x x0 x1)⟩
    · exact ⟨ht, ho, e12, mid _ q1 q2, mid _ q3 q4, fun x x0 x1 => dif_near0 ho.c0 ht.c0 (h1.above x x0 (Int.lt_of_lt_of_le x1 q4)) (h2.below x (Int.le_trans q1 x0) x1)⟩
    · exact ⟨ho, ht, e23, mid _ q3 q4, mid _ q5 q6, fun x x0 x1 => dif_near1 ho.c0 ht.c0 (h2.above x x0 (Int.lt_of_lt_of_le x1 q6)) (h3.below x (Int.le_trans q3 x0) x1)⟩
    · exact ⟨ho, ht, q6, mid _ q5 q6, hb, fun x x0 x1 => dif_far1 ho.c0 ht.c0 (h3.above x x0 x1)⟩
  · simp only [List.flatMap_cons, List.flatMap_nil, List.append_nil]
    unfold Pt.due
    show filL (Dif t o) lo (e1 - lo).toNat ++ (filL (Dif t o) e1 (e2 - e1).toNat ++ (filL (Dif o t) e2 (e3 - e2).toNat ++ filL (Dif o t) e3 (hi - e3).toNat)) = _
    rw [filL_cat e23 q6, filL_congr (P := Dif t o) (P' := Dif o t) fun k _ => dif_comm, filL_congr (P := Dif t o) (P' := Dif o t) fun k _ => dif_comm, filL_cat e12 q4, filL_cat q1 q2]
theorem Parts.swap {o t : L3} {lo hi : Int} {ps : List Pt} (h : Parts t o lo hi ps) : Parts o t lo hi ps := ⟨h.ok, h.len, h.due.trans (filL_congr fun k _ => dif_comm)⟩
/-- a range that runs backwards is empty -/
theorem Parts.max {o t : L3} {lo hi : Int} {ps : List Pt} (h : Parts o t lo (maxI lo hi) ps) : Parts o t lo hi ps := ⟨h.ok, h.len, h.due.trans (by
  unfold maxI
  split
  · rfl
  · rw [show (lo - lo).toNat = (hi - lo).toNat by omega])⟩
noncomputable def Pt.row (p : Pt) : D := .tup [p.d, .int p.many]
/-- the counts' sum is the number of all -/
theorem parts_sum : ∀ ps : List Pt, ((ps.flatMap Pt.due).length : Int) = (ps.map Pt.many).sum
  | [] => rfl
  | p :: ps => by
    rw [List.flatMap_cons, List.length_append, List.map_cons, List.sum_cons, ← parts_sum ps, ← Pt.due_len]
    omega
theorem rows_at {ps : List Pt} {j : Nat} {d : D} (e : (ps.map Pt.row)[j]? = some d) : ∃ p, ps[j]? = some p ∧ p ∈ ps ∧ d = .tup [p.d, .int p.many] := by
  rw [List.getElem?_map] at e
  cases ej : ps[j]? with
  | none => rw [ej] at e; cases e
  | some p =>
    rw [ej] at e
    cases e
    exact ⟨p, rfl, List.mem_of_getElem? ej, rfl⟩
noncomputable def firstD : List Int → D
  | [] => .non
  | x :: _ => .int x
theorem many_nn {p : Pt} : 0 ≤ p.many := by
  rw [← Pt.due_len]; omega
/-- those before are all empty -/
theorem due_skip : ∀ {ps : List Pt} {j : Nat} {p : Pt}, ps[j]? = some p → (∀ i, i < j → ∀ q, ps[i]? = some q → q.due = []) → ∃ r, ps.flatMap Pt.due = p.due ++ r
  | [], j, p, e, _ => by cases e
  | q :: ps, 0, p, e, _ => by cases e; exact ⟨ps.flatMap Pt.due, rfl⟩
  | q :: ps, j + 1, p, e, h => by
    have z := h 0 (by omega) q rfl
    obtain ⟨r, k⟩ := due_skip (ps := ps) (j := j) (p := p) e fun i hi q' hq => h (i + 1) (by omega) q' hq
    exact ⟨r, by rw [List.flatMap_cons, z, List.nil_append, k]⟩
theorem due_none : ∀ {ps : List Pt}, (∀ (i : Nat) (q : Pt), ps[i]? = some q → q.due = []) → ps.flatMap Pt.due = []
  | [], _ => rfl
  | q :: ps, h => by
    rw [List.flatMap_cons, h 0 q rfl, List.nil_append]
    exact due_none fun i q' hq => h (i + 1) q' hq
/-- the numbers of those before -/
theorem due_at_part : ∀ {ps : List Pt} {j : Nat} {p : Pt} {k : Nat} {r : Int}, ps[j]? = some p → p.due[k]? = some r → (ps.flatMap Pt.due)[((ps.take j).flatMap Pt.due).length + k]? = some r
  | [], j, p, k, r, e, _ => by cases e
  | q :: ps, 0, p, k, r, e, h => by
    cases e
    show (q.due ++ ps.flatMap Pt.due)[0 + k]? = _
    rw [Nat.zero_add, List.getElem?_append_left (List.getElem?_eq_some_iff.mp h).1]
    exact h
  | q :: ps, j + 1, p, k, r, e, h => by
    have ih := due_at_part (ps := ps) (j := j) (p := p) (k := k) (r := r) e h
    rw [List.take_succ_cons, List.flatMap_cons, List.flatMap_cons, List.length_append, Nat.add_assoc, List.getElem?_append_right (by omega), Nat.add_sub_cancel_left]
    exact ih
theorem take_len {ps : List Pt} {j : Nat} {p : Pt} (e : ps[j]? = some p) : (((ps.take (j + 1)).flatMap Pt.due).length : Int) = ((ps.take j).flatMap Pt.due).length + p.many := by
  rw [List.take_add_one, e, List.flatMap_append, List.length_append]
  show (((((ps.take j).flatMap Pt.due).length + (p.due ++ []).length : Nat)) : Int) = _
  rw [List.append_nil, ← Pt.due_len]
  omega
theorem sum_row (ps : List Pt) : (ps.map Pt.many).sum = ((ps.flatMap Pt.due).length : Int) := (parts_sum ps).symm
theorem ints_okD {ks : List Int} : okD 1 (.lst (ks.map D.int)) = true := by
  show (ks.map D.int).all (okD 0) = true
  rw [List.all_eq_true]
  intro x hx
  obtain ⟨k, _, rfl⟩ := List.mem_map.mp hx
  rfl
theorem filL_mem {P : Int → Prop} {lo x : Int} : ∀ {n : Nat}, x ∈ filL P lo n → lo ≤ x ∧ x < lo + n
  | 0, h => by cases h
  | n + 1, h => by
    rw [filL_s, List.mem_append] at h
    rcases h with h | h
    · have := filL_mem h
      omega
    · split at h
      · rw [List.mem_singleton] at h
        omega
      · cases h
theorem filL_le {P : Int → Prop} {lo : Int} : ∀ n : Nat, (filL P lo n).length ≤ n
  | 0 => Nat.le_refl _
  | n + 1 => by
    rw [filL_s, List.length_append]
    have := filL_le (P := P) (lo := lo) n
    split
    · show _ + 1 ≤ _
      omega
    · show _ + 0 ≤ _
      omega
theorem filL_at {P : Int → Prop} {lo r : Int} {k : Nat} : ∀ {n : Nat}, (filL P lo n)[k]? = some r → P r ∧ lo ≤ r ∧ r < lo + n ∧ cntP P lo (r - lo).toNat = k
  | 0, h => by cases h
  | n + 1, h => by
    rw [filL_s] at h
    by_cases l : k < (filL P lo n).length
    · rw [List.getElem?_append_left l] at h
      obtain ⟨a, b, c, d⟩ := filL_at h
      exact ⟨a, b, by omega, d⟩
    · rw [List.getElem?_append_right (by omega)] at h
      by_cases p : P (lo + (n : Nat))
      · rw [if_pos p] at h
        have z : k - (filL P lo n).length = 0 := by
          have := (List.getElem?_eq_some_iff.mp h).1
          rw [List.length_singleton] at this
          omega
        rw [z] at h
        cases h
        refine ⟨p, by omega, by omega, ?_⟩
        rw [show (lo + (n : Int) - lo).toNat = n by omega, ← filL_len]
        omega
      · rw [if_neg p] at h
        cases h
theorem first_filL {P : Int → Prop} {lo hi : Int} (lh : lo ≤ hi) : FirstD P lo hi (firstD (filL P lo (hi - lo).toNat)) := by
  cases e : filL P lo (hi - lo).toNat with
  | nil =>
    refine .inl ⟨fun x x0 x1 => ?_, rfl⟩
    have l := filL_len (P := P) (lo := lo) (hi - lo).toNat
    rw [e] at l
    have z := (cntP_zero _).mp l.symm (x - lo).toNat (by omega)
    rw [show lo + ((x - lo).toNat : Int) = x by omega] at z
    exact z
  | cons x r =>
    have g : (filL P lo (hi - lo).toNat)[0]? = some x := by rw [e]; rfl
    obtain ⟨a, b, c, d⟩ := filL_at g
    refine .inr ⟨x, b, by omega, a, fun y y0 y1 => ?_, rfl⟩
    have z := (cntP_zero _).mp d (y - lo).toNat (by omega)
    rw [show lo + ((y - lo).toNat : Int) = y by omega] at z
    exact z
theorem cnt_cat {P : Int → Prop} {lo m hi : Int} (h1 : lo ≤ m) (h2 : m ≤ hi) : cntP P lo (m - lo).toNat + cntP P m (hi - m).toNat = cntP P lo (hi - lo).toNat := by
  rw [← filL_len, ← filL_len, ← filL_len, ← filL_cat h1 h2, List.length_append]
  omega
theorem firstD_ok {F : List Int} : okD 0 (firstD F) = true := by cases F <;> rfl


def sp__law_pair : Spc := fun ds hc Q _ => ∃ b r q N most, ds = [.ref r, .int most] ∧ 0 ≤ most ∧ most ≤ 33 ∧ Dk b r q N hc ∧ N < 790000 ∧ ∀ (o t : L3) hc', o.Sm → t.Sm → Dk b r q (N + 500) hc' → Q (.lst [o.d, t.d]) hc'
theorem len__law_pair {ds : List D} {hc : CH} {Q E} (h : sp__law_pair ds hc Q E) : ds.length = 2 := by
  obtain ⟨b, r, q, N, most, rfl, _⟩ := h
  rfl
theorem pair_ok {a x c : Int} (c0 : 0 < c) (cb : c.natAbs < 2 ^ 999) (ab : a.natAbs < 2 ^ 1299) (bb : x.natAbs < 2 ^ 1299) : (⟨a, x, c⟩ : L3).Sm := ⟨c0, up_pow 1000 cb (by decide), up_pow 1300 ab (by decide), up_pow 1300 bb (by decide)⟩
theorem pure__law_pair {ds : List D} {hc : CH} {Q : D → CH → Prop} {E} (h : sp__law_pair ds hc Q E) : c__law_pair { nx := fun _ hc' => Q .non hc', rt := Q, xp := fun x _ hc' => E x hc' } (startC N__law_pair ds) hc := by
  obtain ⟨b, r, q, N, most, rfl, m0, m1, dk, hN, k⟩ := h
  unfold c__law_pair N__law_pair
  refine seq_step fun M hM => ?_
  walk_at "n"
  refine ⟨b, r, q, N, most, rfl, m0, m1, dk, by omega, fun a x c hc1 c0 cb ab bb dk1 => ?_⟩
  refine ⟨b, r, q, _, 7, rfl, dk1, by omega, by decide, by decide, fun w hc2 w0 w1 dk2 => hM _ _ ?_⟩
  clear hM M
  refine seq_step fun M hM => ?_
  refine ⟨rfl, hM _ _ ?_⟩
  clear hM M
  refine seq_step fun M hM => ?_
  walk_at "n"
  refine ⟨b, r, q, _, most, rfl, m0, m1, dk2, by omega, fun a2 x2 c2 hc3 c20 c2b a2b b2b dk3 => hM _ _ ?_⟩
  clear hM M
  have ok : (⟨a, x, c⟩ : L3).Sm := pair_ok c0 (up_pow 999 cb) (up_pow 1299 ab) (up_pow 1299 bb)
  have tk : (⟨a2, x2, c2⟩ : L3).Sm := pair_ok c20 (up_pow 999 c2b) (up_pow 1299 a2b) (up_pow 1299 b2b)
  have dk3 := dk3.mono (M := N + 410) (by omega)
  have dr : ∀ (j : Nat) (hc' : CH) (m : Int) (F : D → CH → Prop) E', Dk b r q (N + 410 + j) hc' → j ≤ 50 → 0 < m → m ≤ 9 → (∀ k hc'', 0 ≤ k → k < m → k.natAbs < 2 ^ 4 → Dk b r q (N + 410 + (j + 1)) hc'' → F (.int k) hc'') → sp__law_draw [.ref r, .int m] hc' F E' := fun j hc' m F E' dj hj h0 h9 g => ⟨b, r, q, _, m, rfl, dj, by omega, h0, by omega, fun k hc'' k0 k1 d => g k hc'' k0 k1 (Nat.lt_of_lt_of_le (show k.natAbs < 9 by omega) (by decide)) (d.mono (by omega))⟩
  show cSeq _ _ _ [.val (.ref r), .val (.int most), .val (.tup [.int a, .int x, .int c]), .val (.int w), .val (.int a), .val (.int x), .val (.int c), .val (L3.d ⟨a2, x2, c2⟩), .un] hc3
  revert tk dk3
  generalize (⟨a2, x2, c2⟩ : L3) = t
  generalize Sl.un = y
  intro tk dk3
  refine seq_step fun M hM => ?_
  suffices rest : ∀ (t : L3) y hc', t.Sm → Dk b r q (N + 410 + 2) hc' → M [.val (.ref r), .val (.int most), .val (.tup [.int a, .int x, .int c]), .val (.int w), .val (.int a), .val (.int x), .val (.int c), .val t.d, y] hc' by
    walk_at "n"
    refine ite2 (fun z => ?_) (fun z => ?_)
    · walk_at "n"
      refine dr 0 _ _ _ _ dk3 (by decide) (by decide) (by decide) fun k hc'' k0 k1 kb dk => ?_
      exact ⟨by decide, rest ⟨a, x + k - 4, c⟩ _ _ (pair_ok c0 (up_pow 999 cb) (up_pow 1299 ab) (sub_pow (k := 1298) (add_pow (k := 1297) (up_pow 1297 bb) (up_pow 1297 kb)) (low_pow 1298 (by decide)))) (dk.mono (by omega))⟩
    · walk_at "n"
      exact rest _ _ _ tk (dk3.mono (by omega))
  clear tk dk3 y
  clear t
  intro t y hc3 tk dk3
  refine hM _ _ ?_
  clear hM M
  refine seq_step fun M hM => ?_
  suffices rest : ∀ (t : L3) y hc', t.Sm → Dk b r q (N + 410 + 4) hc' → M [.val (.ref r), .val (.int most), .val (.tup [.int a, .int x, .int c]), .val (.int w), .val (.int a), .val (.int x), .val (.int c), .val t.d, y] hc' by
    walk_at "n"
    refine ite2 (fun z => ?_) (fun z => ?_)
    · walk_at "n"
      refine dr 2 _ _ _ _ dk3 (by decide) (by decide) (by decide) fun k hc'' k0 k1 kb dk => ?_
      exact ⟨by decide, rest ⟨a + k - 1, x, c⟩ _ _ (pair_ok c0 (up_pow 999 cb) (sub_pow (k := 1298) (add_pow (k := 1297) (up_pow 1297 ab) (up_pow 1297 kb)) (low_pow 1298 (by decide))) (up_pow 1299 bb)) (dk.mono (by omega))⟩
    · walk_at "n"
      exact rest _ _ _ tk (dk3.mono (by omega))
  clear tk dk3 y
  clear t
  intro t y hc3 tk dk3
  refine hM _ _ ?_
  clear hM M
  refine seq_step fun M hM => ?_
  suffices rest : ∀ (t : L3) y hc', t.Sm → Dk b r q (N + 410 + 6) hc' → M [.val (.ref r), .val (.int most), .val (.tup [.int a, .int x, .int c]), .val (.int w), .val (.int a), .val (.int x), .val (.int c), .val t.d, y] hc' by
    walk_at "n"
    refine ite2 (fun z => ?_) (fun z => ?_)
    · walk_at "n"
      refine dr 4 _ _ _ _ dk3 (by decide) (by decide) (by decide) fun k hc'' k0 k1 kb dk => ?_
      exact ⟨by decide, rest ⟨0 - a, x + k, c⟩ _ _ (pair_ok c0 (up_pow 999 cb) (sub_pow (k := 1298) (low_pow 1298 (by decide)) (up_pow 1298 ab)) (add_pow (k := 1298) (up_pow 1298 bb) (up_pow 1298 kb))) (dk.mono (by omega))⟩
    · walk_at "n"
      exact rest _ _ _ tk (dk3.mono (by omega))
  clear tk dk3 y
  clear t
  intro t y hc3 tk dk3
  refine hM _ _ ?_
  clear hM M
  refine seq_step fun M hM => ?_
  suffices rest : ∀ (t : L3) y hc', t.Sm → Dk b r q (N + 410 + 8) hc' → M [.val (.ref r), .val (.int most), .val (.tup [.int a, .int x, .int c]), .val (.int w), .val (.int a), .val (.int x), .val (.int c), .val t.d, y] hc' by
    walk_at "n"
    refine ite2 (fun z => ?_) (fun z => ?_)
    · refine seq_step fun M2 hM2 => ?_
      walk_at "n"
      refine dr 6 _ _ _ _ dk3 (by decide) (by decide) (by decide) fun k hc'' k0 k1 kb dk => ?_
      refine hM2 _ _ ?_
      walk_at "n"
      have tb : (1 + k).natAbs < 2 ^ 5 := add_pow (k := 4) (by decide) kb
      refine ⟨mulOk 5 1200 tb ab (by decide), mulOk 5 1200 tb bb (by decide), ?_⟩
      refine dr 7 _ 2 _ _ dk (by decide) (by decide) (by decide) fun k' hc'' k0' k1' kb' dk => ?_
      refine ⟨mulOk 5 991 tb cb (by decide), by decide, rest ⟨(1 + k) * a, (1 + k) * x + k', (1 + k) * c⟩ _ _ (pair_ok (Int.mul_pos (by omega) c0) (up_pow 999 (mul_pow tb cb)) (up_pow 1299 (mul_pow tb ab)) (add_pow (k := 1298) (up_pow 1298 (mul_pow tb bb)) (up_pow 1298 kb'))) (dk.mono (by omega))⟩
    · walk_at "n"
      exact rest _ _ _ tk (dk3.mono (by omega))
  clear tk dk3 y
  clear t
  intro t y hc3 tk dk3
  refine hM _ _ ?_
  clear hM M
  refine seq_step fun M hM => ?_
  suffices rest : ∀ (t : L3) y hc', t.Sm → Dk b r q (N + 410 + 10) hc' → M [.val (.ref r), .val (.int most), .val (.tup [.int a, .int x, .int c]), .val (.int w), .val (.int a), .val (.int x), .val (.int c), .val t.d, y] hc' by
    walk_at "n"
    refine ite2 (fun z => ?_) (fun z => ?_)
    · walk_at "n"
      have tb : (2 : Int).natAbs < 2 ^ 5 := by decide
      refine ⟨mulOk 5 1200 tb ab (by decide), ?_⟩
      refine dr 8 _ 3 _ _ dk3 (by decide) (by decide) (by decide) fun k hc'' k0 k1 kb dk => ?_
      refine ⟨mulOk 5 1200 tb bb (by decide), mulOk 5 991 tb cb (by decide), by decide, rest ⟨2 * a + k - 1, 2 * x, 2 * c⟩ _ _ (pair_ok (Int.mul_pos (by decide) c0) (up_pow 999 (mul_pow tb cb)) (sub_pow (k := 1298) (add_pow (k := 1297) (up_pow 1297 (mul_pow tb ab)) (up_pow 1297 kb)) (low_pow 1298 (by decide))) (up_pow 1299 (mul_pow tb bb))) (dk.mono (by omega))⟩
    · walk_at "n"
      exact rest _ _ _ tk (dk3.mono (by omega))
  clear tk dk3 y
  clear t
  intro t y hc3 tk dk3
  refine hM _ _ ?_
  clear hM M
  refine seq_step fun M hM => ?_
  suffices rest : ∀ (t : L3) y hc', t.Sm → Dk b r q (N + 410 + 12) hc' → M [.val (.ref r), .val (.int most), .val (.tup [.int a, .int x, .int c]), .val (.int w), .val (.int a), .val (.int x), .val (.int c), .val t.d, y] hc' by
    walk_at "n"
    refine ite2 (fun z => ?_) (fun z => ?_)
    · walk_at "n"
      refine dr 10 _ _ _ _ dk3 (by decide) (by decide) (by decide) fun k hc'' k0 k1 kb dk => ?_
      have k1b : (k - 1).natAbs < 2 ^ 5 := sub_pow (k := 4) kb (by decide)
      refine ⟨mulOk 991 5 cb k1b (by decide), by decide, rest ⟨a, x + c * (k - 1), c⟩ _ _ (pair_ok c0 (up_pow 999 cb) (up_pow 1299 ab) (add_pow (k := 1298) (up_pow 1298 bb) (up_pow 1298 (mul_pow cb k1b)))) (dk.mono (by omega))⟩
    · walk_at "n"
      exact rest _ _ _ tk (dk3.mono (by omega))
  clear tk dk3 y
  clear t
  intro t y hc3 tk dk3
  refine hM _ _ ?_
  clear hM M
  walk_at "n"
  exact ⟨by decide, k _ _ _ ok tk (dk3.mono (by omega))⟩


theorem at__law_pair (T : Txt K mg) (B : BaseT K mg base) (KX : K.In base) (PS : Sup P mf) (A__law_draw : FnAt P w K mg base 1 "_law_draw" ["_law_deck_here", "_law_many"] sp__law_draw) (A__law_line : FnAt P w K mg base 3 "_law_line" ["_law_deck_here", "_law_most"] sp__law_line) : FnAt P w K mg base 4 "_law_pair" ["_law_deck_here", "_law_most"] sp__law_pair :=
  fn_at (c := c__law_pair) T.d__law_pair sc__law_pair (fun f cdv A outer s H E hr => by
    have nd := sc__law_pair.nd
    exact (css_cons (cs_par rfl nd (ca_cons (ce_f A__law_line hr (ca_cons (ce_v 0) (ca_cons (ce_v 1) ca_nil))) (ca_cons (ce_f A__law_draw hr (ca_cons (ce_v 0) (ca_cons ce_i ca_nil))) ca_nil)))
    (css_cons (cs_asg (ce_v 2) (cg_u rfl (cgs_cons (cg_n 4 nd) (cgs_cons (cg_n 5 nd) (cgs_cons (cg_n 6 nd) cgs_nil)))))
    (css_cons (cs_set nd (ce_f A__law_line hr (ca_cons (ce_v 0) (ca_cons (ce_v 1) ca_nil))))
    (css_cons (cs_if (ct_cmp (op_eqDD hr.g.units) (CE.bo (ce_v 3)) (CE.bo ce_i))
    (css_one (cs_set nd (ce_tup (ca_cons (ce_v 4) (ca_cons (ce_op op_subD (CE.bo (ce_op op_addD (CE.bo (ce_v 5)) (CE.bo (ce_f A__law_draw hr (ca_cons (ce_v 0) (ca_cons ce_i ca_nil)))))) (CE.bo ce_i)) (ca_cons (ce_v 6) ca_nil))))))
    css_nil)
    (css_cons (cs_if (ct_cmp (op_eqDD hr.g.units) (CE.bo (ce_v 3)) (CE.bo ce_i))
    (css_one (cs_set nd (ce_tup (ca_cons (ce_op op_subD (CE.bo (ce_op op_addD (CE.bo (ce_v 4)) (CE.bo (ce_f A__law_draw hr (ca_cons (ce_v 0) (ca_cons ce_i ca_nil)))))) (CE.bo ce_i)) (ca_cons (ce_v 5) (ca_cons (ce_v 6) ca_nil))))))
    css_nil)
    (css_cons (cs_if (ct_cmp (op_eqDD hr.g.units) (CE.bo (ce_v 3)) (CE.bo ce_i))
    (css_one (cs_set nd (ce_tup (ca_cons (ce_op op_subD (CE.bo ce_i) (CE.bo (ce_v 4))) (ca_cons (ce_op op_addD (CE.bo (ce_v 5)) (CE.bo (ce_f A__law_draw hr (ca_cons (ce_v 0) (ca_cons ce_i ca_nil))))) (ca_cons (ce_v 6) ca_nil))))))
    css_nil)
    (css_cons (cs_if (ct_cmp (op_eqDD hr.g.units) (CE.bo (ce_v 3)) (CE.bo ce_i))
    (css_cons (cs_set nd (ce_op op_addD (CE.bo ce_i) (CE.bo (ce_f A__law_draw hr (ca_cons (ce_v 0) (ca_cons ce_i ca_nil))))))
    (css_one (cs_set nd (ce_tup (ca_cons (ce_op op_mulD (CE.bo (ce_v 8)) (CE.bo (ce_v 4))) (ca_cons (ce_op op_addD (CE.bo (ce_op op_mulD (CE.bo (ce_v 8)) (CE.bo (ce_v 5)))) (CE.bo (ce_f A__law_draw hr (ca_cons (ce_v 0) (ca_cons ce_i ca_nil))))) (ca_cons (ce_op op_mulD (CE.bo (ce_v 8)) (CE.bo (ce_v 6))) ca_nil)))))))
    css_nil)
    (css_cons (cs_if (ct_cmp (op_eqDD hr.g.units) (CE.bo (ce_v 3)) (CE.bo ce_i))
    (css_one (cs_set nd (ce_tup (ca_cons (ce_op op_subD (CE.bo (ce_op op_addD (CE.bo (ce_op op_mulD (CE.bo ce_i) (CE.bo (ce_v 4)))) (CE.bo (ce_f A__law_draw hr (ca_cons (ce_v 0) (ca_cons ce_i ca_nil)))))) (CE.bo ce_i)) (ca_cons (ce_op op_mulD (CE.bo ce_i) (CE.bo (ce_v 5))) (ca_cons (ce_op op_mulD (CE.bo ce_i) (CE.bo (ce_v 6))) ca_nil))))))
    css_nil)
    (css_cons (cs_if (ct_cmp (op_eqDD hr.g.units) (CE.bo (ce_v 3)) (CE.bo ce_i))
    (css_one (cs_set nd (ce_tup (ca_cons (ce_v 4) (ca_cons (ce_op op_addD (CE.bo (ce_v 5)) (CE.bo (ce_op op_mulD (CE.bo (ce_v 6)) (CE.bo (ce_op op_subD (CE.bo (ce_f A__law_draw hr (ca_cons (ce_v 0) (ca_cons ce_i ca_nil)))) (CE.bo ce_i)))))) (ca_cons (ce_v 6) ca_nil))))))
    css_nil)
    (css_one (cs_ret (CE.bo (ce_lst (ca_cons (ce_v 2) (ca_cons (ce_v 7) ca_nil))))))))))))))))
    (fun ds hc Q E h => len__law_pair h) (fun ds hc Q E h => pure__law_pair h) (fun _ _ _ _ _ _ us hl => match us, hl with | [_, _], _ => rfl)

abbrev N__law_far : List Str := ["_law_deck_here", "_law_most", "_law_parts", "_law_low"]
def c__law_far : CSx :=
  (cSeq (cAsg (cCall sp__law_draw (cCons (cV 0) (cCons (cOp addD (cV 1) (cC (.int 1))) cNil))) (gN 2))
    (cSeq (cAsg (cOp ixD (cLst (cCons (cC (.int 0)) (cCons (cC (.int 1)) (cCons (cCall sp__law_number (cCons (cV 0) (cCons (cC (.int 6)) cNil))) cNil)))) (cCall sp__law_draw (cCons (cV 0) (cCons (cC (.int 3)) cNil)))) (gN 3))
    (cRet (cLst (cCons (cV 3) (cCons (cOp addD (cOp addD (cV 3) (cC (.int 1))) (cFn absD (cCons (cCall sp__law_number (cCons (cV 0) (cCons (cV 2) cNil))) cNil))) cNil))))))

def sp__law_far : Spc := fun ds hc Q _ => ∃ b r q N most, ds = [.ref r, .int most] ∧ 0 ≤ most ∧ most ≤ 6 ∧ Dk b r q N hc ∧ N < 800000 ∧ ∀ lo m hc', lo.natAbs < 2 ^ 200 → 1 ≤ m → m.natAbs < 2 ^ 185 → Dk b r q (N + 30) hc' → Q (.lst [.int lo, .int (lo + m)]) hc'
theorem len__law_far {ds : List D} {hc : CH} {Q E} (h : sp__law_far ds hc Q E) : ds.length = 2 := by
  obtain ⟨b, r, q, N, most, rfl, _⟩ := h
  rfl
theorem num6_lt' {k : Int} {p : Nat} (h : k.natAbs < 12 * (10 ^ 9) ^ p) (hp : p ≤ 6) : k.natAbs < 2 ^ 184 := by
  have h1 : 12 * (10 ^ 9) ^ p ≤ 12 * (10 ^ 9) ^ 6 := Nat.mul_le_mul_left _ (Nat.pow_le_pow_right (by decide) hp)
  have h2 : 12 * (10 ^ 9) ^ 6 < 2 ^ 184 := by decide +kernel
  omega
theorem pow184 : (2 : Nat) ^ 184 + 2 < 2 ^ 185 ∧ (2 : Nat) ^ 184 < 2 ^ 200 := by decide +kernel
theorem pure__law_far {ds : List D} {hc : CH} {Q : D → CH → Prop} {E} (h : sp__law_far ds hc Q E) : c__law_far { nx := fun _ hc' => Q .non hc', rt := Q, xp := fun x _ hc' => E x hc' } (startC N__law_far ds) hc := by
  obtain ⟨b, r, q, N, most, rfl, hm0, hm1, dk, hN, k⟩ := h
  obtain ⟨p1, p2⟩ := pow184
  unfold c__law_far N__law_far
  refine seq_step fun M hM => ?_
  walk_at "n"
  refine ⟨b, r, q, _, _, rfl, dk, by omega, by omega, by omega, fun k0 hc1 l0 l1 dk1 => hM _ _ ?_⟩
  refine seq_step fun M hM => ?_
  walk_at "n"
  refine ⟨b, r, q, _, _, rfl, dk1, by omega, by decide, by decide, fun k1 hc2 l2 dk2 => ?_⟩
  have l2 := num6_lt' l2 (by decide)
  walk_at "n"
  refine ⟨by decide, b, r, q, _, _, rfl, dk2, by omega, by decide, by decide, fun k2 hc3 l3 l4 dk3 => ?_⟩
  have hx : ∃ lo : Int, lo.natAbs < 2 ^ 200 ∧ atI [.int 0, .int 1, .int k1] k2 = some (D.int lo) := by
    rcases (show k2 = 0 ∨ k2 = 1 ∨ k2 = 2 by omega) with rfl | rfl | rfl
    · exact ⟨0, by omega, rfl⟩
    · exact ⟨1, by omega, rfl⟩
    · exact ⟨k1, by omega, rfl⟩
  obtain ⟨lo, hlo, ex⟩ := hx
  refine oth_some ex (hM _ _ ?_)
  walk_at "n"
  refine ⟨b, r, q, _, _, rfl, dk3, by omega, by omega, by omega, fun k3 hc4 l5 dk4 => ?_⟩
  have l5 := num6_lt' l5 (by omega)
  walk_at "n"
  refine ⟨by decide, ?_⟩
  rw [Int.add_assoc]
  exact k _ _ _ hlo (by split <;> omega) (by split <;> omega) (dk4.mono (by have e6 : (6 : Int).toNat = 6 := rfl; rw [e6]; omega))


theorem at__law_far (T : Txt K mg) (B : BaseT K mg base) (KX : K.In base) (PS : Sup P mf) (A__law_draw : FnAt P w K mg base 1 "_law_draw" ["_law_deck_here", "_law_many"] sp__law_draw) (A__law_number : FnAt P w K mg base 2 "_law_number" ["_law_deck_here", "_law_parts"] sp__law_number) : FnAt P w K mg base 3 "_law_far" ["_law_deck_here", "_law_most"] sp__law_far :=
  fn_at (c := c__law_far) T.d__law_far sc__law_far (fun f cdv A outer s H E hr => by
    have nd := sc__law_far.nd
    exact (css_cons (cs_set nd (ce_f A__law_draw hr (ca_cons (ce_v 0) (ca_cons (ce_op op_addD (CE.bo (ce_v 1)) (CE.bo ce_i)) ca_nil))))
    (css_cons (cs_set nd (ce_ix (CE.bo (ce_lst (ca_cons ce_i (ca_cons ce_i (ca_cons (ce_f A__law_number hr (ca_cons (ce_v 0) (ca_cons ce_i ca_nil))) ca_nil))))) (ce_f A__law_draw hr (ca_cons (ce_v 0) (ca_cons ce_i ca_nil)))))
    (css_one (cs_ret (CE.bo (ce_lst (ca_cons (ce_v 3) (ca_cons (ce_op op_addD (CE.bo (ce_op op_addD (CE.bo (ce_v 3)) (CE.bo ce_i))) (CE.bo (ce_bf bf_abs T.n_abs (cba_cons (CE.bo (ce_f A__law_number hr (ca_cons (ce_v 0) (ca_cons (ce_v 2) ca_nil)))) cba_nil)))) ca_nil)))))))))
    (fun ds hc Q E h => len__law_far h) (fun ds hc Q E h => pure__law_far h) (fun _ _ _ _ _ _ us hl => match us, hl with | [_, _], _ => rfl)

abbrev N_difference : List Str := ["one", "other", "a", "b", "c", "d", "e", "f"]
def c_difference : CSx :=
  (cSeq (cAsg (cV 0) (gUn 3 (gCons' (gN 2) (gCons' (gN 3) (gCons' (gN 4) gNil')))))
    (cSeq (cAsg (cV 1) (gUn 3 (gCons' (gN 5) (gCons' (gN 6) (gCons' (gN 7) gNil')))))
    (cRet (cTup (cCons (cOp subD (cOp mulD (cV 5) (cV 4)) (cOp mulD (cV 2) (cV 7))) (cCons (cOp subD (cOp mulD (cV 6) (cV 4)) (cOp mulD (cV 3) (cV 7))) (cCons (cOp mulD (cV 4) (cV 7)) cNil)))))))

def sp_difference : Spc := fun ds hc Q _ => ∃ o t : L3, ds = [o.d, t.d] ∧ o.Ok ∧ t.Ok ∧ Q (difL o t).d hc
theorem len_difference {ds : List D} {hc : CH} {Q E} (h : sp_difference ds hc Q E) : ds.length = 2 := by
  obtain ⟨o, t, rfl, _⟩ := h
  rfl
theorem pure_difference {ds : List D} {hc : CH} {Q : D → CH → Prop} {E} (h : sp_difference ds hc Q E) : c_difference { nx := fun _ hc' => Q .non hc', rt := Q, xp := fun x _ hc' => E x hc' } (startC N_difference ds) hc := by
  obtain ⟨⟨a, b, c⟩, ⟨d, e, f⟩, rfl, ok, tk, q⟩ := h
  unfold c_difference N_difference
  simp only [L3.d]
  refine seq_step fun M hM => ?_
  refine ⟨rfl, hM _ _ ?_⟩
  refine seq_step fun M hM => ?_
  refine ⟨rfl, hM _ _ ?_⟩
  walk_at "n"
  exact ⟨mulOk 1310 1010 tk.ab ok.cb (by decide), mulOk 1310 1010 ok.ab tk.cb (by decide), mulOk 1310 1010 tk.bb ok.cb (by decide), mulOk 1310 1010 ok.bb tk.cb (by decide), mulOk 1010 1010 ok.cb tk.cb (by decide), by decide, q⟩


theorem at_difference (T : Txt K mg) (B : BaseT K mg base) (KX : K.In base) (PS : Sup P mf)  : FnAt P w K mg base 1 "difference" ["one", "other"] sp_difference :=
  fn_at (c := c_difference) T.d_difference sc_difference (fun f cdv A outer s H E hr => by
    have nd := sc_difference.nd
    exact (css_cons (cs_asg (ce_v 0) (cg_u rfl (cgs_cons (cg_n 2 nd) (cgs_cons (cg_n 3 nd) (cgs_cons (cg_n 4 nd) cgs_nil)))))
    (css_cons (cs_asg (ce_v 1) (cg_u rfl (cgs_cons (cg_n 5 nd) (cgs_cons (cg_n 6 nd) (cgs_cons (cg_n 7 nd) cgs_nil)))))
    (css_one (cs_ret (CE.bo (ce_tup (ca_cons (ce_op op_subD (CE.bo (ce_op op_mulD (CE.bo (ce_v 5)) (CE.bo (ce_v 4)))) (CE.bo (ce_op op_mulD (CE.bo (ce_v 2)) (CE.bo (ce_v 7))))) (ca_cons (ce_op op_subD (CE.bo (ce_op op_mulD (CE.bo (ce_v 6)) (CE.bo (ce_v 4)))) (CE.bo (ce_op op_mulD (CE.bo (ce_v 3)) (CE.bo (ce_v 7))))) (ca_cons (ce_op op_mulD (CE.bo (ce_v 4)) (CE.bo (ce_v 7))) ca_nil))))))))))
    (fun ds hc Q E h => len_difference h) (fun ds hc Q E h => pure_difference h) (fun _ _ _ _ _ _ us hl => match us, hl with | [_, _], _ => rfl)

abbrev N_first_from : List Str := ["line", "least", "low", "high", "a", "b", "c"]
def c_first_from : CSx :=
  (cSeq (cAsg (cV 0) (gUn 3 (gCons' (gN 4) (gCons' (gN 5) (gCons' (gN 6) gNil')))))
    (cSeq (cIfS (cT (cOp eqD (cV 4) (cC (.int 0))))
    (cRet (cIf (cT (cOp geD (cV 5) (cV 1))) (cV 2) (cV 3)))
    cNext)
    (cRet (cFn minD2 (cCons (cV 3) (cCons (cFn maxD2 (cCons (cV 2) (cCons (cOp subD (cC (.int 0)) (cOp fdivD (cOp subD (cV 5) (cV 1)) (cV 4))) cNil))) cNil))))))

def sp_first_from : Spc := fun ds hc Q _ => ∃ a b c least lo hi, ds = [.tup [.int a, .int b, .int c], .int least, .int lo, .int hi] ∧ a.natAbs < 2 ^ 3000 ∧ 0 ≤ a ∧ Q (.int (fromI a b least lo hi)) hc
theorem len_first_from {ds : List D} {hc : CH} {Q E} (h : sp_first_from ds hc Q E) : ds.length = 4 := by
  obtain ⟨a, b, c, least, lo, hi, rfl, _⟩ := h
  rfl
theorem pure_first_from {ds : List D} {hc : CH} {Q : D → CH → Prop} {E} (h : sp_first_from ds hc Q E) : c_first_from { nx := fun _ hc' => Q .non hc', rt := Q, xp := fun x _ hc' => E x hc' } (startC N_first_from ds) hc := by
  obtain ⟨a, b, c, least, lo, hi, rfl, ab, a0, q⟩ := h
  unfold c_first_from N_first_from
  unfold fromI at q
  refine seq_step fun M hM => ?_
  refine ⟨rfl, hM _ _ ?_⟩
  walk_at "n"
  refine ite2 (fun z => ?_) (fun z => ?_)
  · rw [if_pos (of_decide_eq_true z)] at q
    refine ite2 (fun y => ?_) (fun y => ?_)
    · rw [if_pos (of_decide_eq_true y)] at q
      walk_at "n"
      exact q
    · rw [if_neg fun w => y (decide_eq_true w)] at q
      walk_at "n"
      exact q
  · have z : ¬ a = 0 := fun w => z (decide_eq_true w)
    rw [if_neg z] at q
    walk_at "n"
    exact ⟨divOk 3000 (by clear ab; omega) ab (by decide), q⟩


theorem at_first_from (T : Txt K mg) (B : BaseT K mg base) (KX : K.In base) (PS : Sup P mf)  : FnAt P w K mg base 1 "first_from" ["line", "least", "low", "high"] sp_first_from :=
  fn_at (c := c_first_from) T.d_first_from sc_first_from (fun f cdv A outer s H E hr => by
    have nd := sc_first_from.nd
    exact (css_cons (cs_asg (ce_v 0) (cg_u rfl (cgs_cons (cg_n 4 nd) (cgs_cons (cg_n 5 nd) (cgs_cons (cg_n 6 nd) cgs_nil)))))
    (css_cons (cs_if (ct_cmp (op_eqDD hr.g.units) (CE.bo (ce_v 4)) (CE.bo ce_i))
    (css_one (cs_ret (CE.bo (ce_if (ct_cmp op_geD (CE.bo (ce_v 5)) (CE.bo (ce_v 1))) (ce_v 2) (ce_v 3)))))
    css_nil)
    (css_one (cs_ret (CE.bo (ce_bf (bf_min2 rfl) T.n_min (cba_cons (CE.bo (ce_v 3)) (cba_cons (CE.bo (ce_bf (bf_max2 rfl) T.n_max (cba_cons (CE.bo (ce_v 2)) (cba_cons (CE.bo (ce_op op_subD (CE.bo ce_i) (CE.bo (ce_op op_fdivD (CE.bo (ce_op op_subD (CE.bo (ce_v 5)) (CE.bo (ce_v 1)))) (CE.bo (ce_v 4)))))) cba_nil)))) cba_nil)))))))))
    (fun ds hc Q E h => len_first_from h) (fun ds hc Q E h => pure_first_from h) (fun _ _ _ _ _ _ us hl => match us, hl with | [_, _, _, _], _ => rfl)

abbrev N_parts_of : List Str := ["one", "other", "low", "high", "line", "ends", "pairs", "found", "lower", "upper", "is_far", "begin", "end", "least"]
def c_parts_of : CSx :=
  (cSeq (cIfS (cT (cOp ltD (cOp ixD (cCall sp_difference (cCons (cV 0) (cCons (cV 1) cNil))) (cC (.int 0))) (cC (.int 0))))
    (cPar 0 1 (cCons (cV 1) (cCons (cV 0) cNil)))
    cNext)
    (cSeq (cAsg (cTup (cCons (cCall sp_difference (cCons (cV 0) (cCons (cV 1) cNil))) (cCons (cFn maxD2 (cCons (cV 2) (cCons (cV 3) cNil))) cNil))) (gUn 2 (gCons' (gN 4) (gCons' (gN 3) gNil'))))
    (cSeq (cAsg (cLst (cCons (cV 2) (cStar (cLc (cIt (cTup (cCons (cOp subD (cC (.int 1)) (cOp ixD (cV 4) (cC (.int 2)))) (cCons (cC (.int 0)) (cCons (cOp ixD (cV 4) (cC (.int 2))) cNil))))) (gN 13) cYes (cCall sp_first_from (cCons (cV 4) (cCons (cV 13) (cCons (cV 2) (cCons (cV 3) cNil))))) [13]) (cCons (cV 3) cNil)))) (gN 5))
    (cSeq (cAsg (cLst (cCons (cTup (cCons (cV 1) (cCons (cV 0) (cCons (cC (.bl true)) cNil)))) (cCons (cTup (cCons (cV 1) (cCons (cV 0) (cCons (cC (.bl false)) cNil)))) (cCons (cTup (cCons (cV 0) (cCons (cV 1) (cCons (cC (.bl false)) cNil)))) (cCons (cTup (cCons (cV 0) (cCons (cV 1) (cCons (cC (.bl true)) cNil)))) cNil))))) (gN 6))
    (cSeq (cSetO 7 cNil)
    (cSeq (cFor (cZip3 (cV 6) (cV 5) (cSl (cV 5) (cSoP (cC (.int 1))) cNoP)) (gUn 3 (gCons' (gUn 3 (gCons' (gN 8) (gCons' (gN 9) (gCons' (gN 10) gNil')))) (gCons' (gN 11) (gCons' (gN 12) gNil'))))
    (cApp 7 (cTup (cCons (cV 8) (cCons (cV 9) (cCons (cV 11) (cCons (cV 12) (cCons (cV 10) cNil))))))))
    (cRet (cO 7))))))))

def sp_parts_of : Spc := fun ds hc Q _ => ∃ (o t : L3) (lo hi : Int), ds = [o.d, t.d, .int lo, .int hi] ∧ o.Ok ∧ t.Ok ∧ lo.natAbs < 2 ^ 210 ∧ hi.natAbs < 2 ^ 210 ∧ ∀ ps, Parts o t lo hi ps → Q (.lst (ps.map Pt.d)) hc
theorem len_parts_of {ds : List D} {hc : CH} {Q E} (h : sp_parts_of ds hc Q E) : ds.length = 4 := by
  obtain ⟨o, t, lo, hi, rfl, _⟩ := h
  rfl
theorem pure_parts_of {ds : List D} {hc : CH} {Q : D → CH → Prop} {E} (h : sp_parts_of ds hc Q E) : c_parts_of { nx := fun _ hc' => Q .non hc', rt := Q, xp := fun x _ hc' => E x hc' } (startC N_parts_of ds) hc := by
  obtain ⟨o, t, lo, hi, rfl, ok, tk, lb, hb, q⟩ := h
  unfold c_parts_of N_parts_of
  refine seq_step fun M hM => ?_
  suffices rest : ∀ o' t' : L3, o'.Ok → t'.Ok → 0 ≤ (difL o' t').a → (∀ ps, Parts o' t' lo hi ps → Parts o t lo hi ps) → M [.val o'.d, .val t'.d, .val (.int lo), .val (.int hi), .un, .un, .un, .un, .un, .un, .un, .un, .un, .un] hc by
    walk_at "n"
    refine ⟨o, t, rfl, ok, tk, ?_⟩
    unfold L3.d
    walk_at "n"
    refine ite2 (fun z => ?_) (fun z => ?_)
    · have z : (difL o t).a < 0 := of_decide_eq_true z
      walk_at "n"
      refine rest t o tk ok ?_ fun ps h => h.swap
      have e : (difL t o).a = o.a * t.c - t.a * o.c := rfl
      have e2 : (difL o t).a = t.a * o.c - o.a * t.c := rfl
      omega
    · have z : ¬ (difL o t).a < 0 := fun y => z (decide_eq_true y)
      walk_at "n"
      exact rest o t ok tk (by omega) fun ps h => h
  clear ok tk
  intro o t ok tk a0 back
  refine hM _ _ ?_
  refine seq_step fun M2 hM2 => ?_
  walk_at "n"
  refine ⟨o, t, rfl, ok, tk, ?_⟩
  unfold L3.d
  walk_at "n"
  refine ⟨by decide, ?_⟩
  have lh : lo ≤ maxI lo hi := by unfold maxI; split <;> omega
  have hb : (maxI lo hi).natAbs < 2 ^ 210 := by
    unfold maxI
    split
    · exact hb
    · exact lb
  have back : ∀ ps, Parts o t lo (maxI lo hi) ps → Q (.lst (ps.map Pt.d)) hc := fun ps h => q ps (back ps h.max)
  show M2 [.val o.d, .val t.d, .val (.int lo), .val (.int (maxI lo hi)), .val (.tup [.int (difL o t).a, .int (difL o t).b, .int (difL o t).c]), .un, .un, .un, .un, .un, .un, .un, .un, .un] hc
  revert lh hb back
  generalize maxI lo hi = hi
  intro lh hb back
  refine hM2 _ _ ?_
  clear hM2 M2 hM M
  have ab : (difL o t).a.natAbs < 2 ^ 3000 := by
    show (t.a * o.c - o.a * t.c).natAbs < 2 ^ 3000
    exact up_pow 3000 (k := 2321) (sub_pow (mul_pow tk.ab ok.cb) (mul_pow ok.ab tk.cb))
  refine seq_step fun M hM => ?_
  refine asg_step fun L hL => ?_
  walk_at "n"
  refine lc_step fun R hR => ?_
  walk_at "n"
  refine ⟨by decide, ?_⟩
  refine hR _ _ (onI fun l => fromI (difL o t).a (difL o t).b l lo hi) (show 3 ≤ sizeLine by decide) (fun d hd Nx q => ?_) ?_
  · simp only [List.mem_cons, List.not_mem_nil, or_false] at hd
    rcases hd with rfl | rfl | rfl <;> exact ⟨_, _, _, _, _, _, rfl, ab, a0, q⟩
  · have cut := fun e1 e2 e3 h1 h2 h3 => back _ (cut_parts (e1 := e1) (e2 := e2) (e3 := e3) ok tk lb hb lh h1 h2 h3)
    have f1 := from_ok (b := (difL o t).b) (least := 1 - (difL o t).c) a0 lh rfl
    have f2 := from_ok (b := (difL o t).b) (least := 0) a0 lh rfl
    have f3 := from_ok (b := (difL o t).b) (least := (difL o t).c) a0 lh rfl
    walk_at "n"
    refine ⟨by decide, ?_⟩
    refine hL _ _ (hM _ _ ?_)
    clear hL L hM M hR R
    simp only [onI]
    revert f1 f2 f3
    generalize fromI (difL o t).a (difL o t).b (1 - (difL o t).c) lo hi = e1
    generalize fromI (difL o t).a (difL o t).b 0 lo hi = e2
    generalize fromI (difL o t).a (difL o t).b (difL o t).c lo hi = e3
    intro f1 f2 f3
    have q := cut e1 e2 e3 f1 f2 f3
    clear cut f1 f2 f3 back
    refine seq_step fun M hM => ?_
    refine asg_step fun L hL => ?_
    walk_at "n"
    refine ⟨by decide, by decide, by decide, by decide, by decide, hL _ _ (hM _ _ ?_)⟩
    clear hL L hM M
    refine seq_step fun M hM => ?_
    walk_at "n"
    refine ⟨by decide, hM _ _ ?_⟩
    refine seq_step fun M2 hM2 => ?_
    refine for_step fun R hR => ?_
    walk_at "n"
    rw [show zip3D [D.tup [t.d, o.d, D.bl true], D.tup [t.d, o.d, D.bl false], D.tup [o.d, t.d, D.bl false], D.tup [o.d, t.d, D.bl true]] [D.int lo, D.int e1, D.int e2, D.int e3, D.int hi] (cutX [D.int lo, D.int e1, D.int e2, D.int e3, D.int hi] (some 1) none) = [D.tup [D.tup [t.d, o.d, D.bl true], D.int lo, D.int e1], D.tup [D.tup [t.d, o.d, D.bl false], D.int e1, D.int e2], D.tup [D.tup [o.d, t.d, D.bl false], D.int e2, D.int e3], D.tup [D.tup [o.d, t.d, D.bl true], D.int e3, D.int hi]] from rfl]
    refine hR _ _ (fun i sc h' => h' = hc ∧ ∃ a8 a9 a10 a11 a12, sc = [.val o.d, .val t.d, .val (.int lo), .val (.int hi), .val (.tup [.int (difL o t).a, .int (difL o t).b, .int (difL o t).c]), .val (.lst [.int lo, .int e1, .int e2, .int e3, .int hi]), .val (.lst [D.tup [t.d, o.d, D.bl true], D.tup [t.d, o.d, D.bl false], D.tup [o.d, t.d, D.bl false], D.tup [o.d, t.d, D.bl true]]), .own ((([⟨lo, e1, t, o, true⟩, ⟨e1, e2, t, o, false⟩, ⟨e2, e3, o, t, false⟩, ⟨e3, hi, o, t, true⟩] : List Pt).take i).map Pt.d), a8, a9, a10, a11, a12, .un]) ⟨rfl, _, _, _, _, _, rfl⟩ (fun j d sc h' Nx e I nx => ?_) (fun sc h' I => ?_)
    · obtain ⟨rfl, a8, a9, a10, a11, a12, rfl⟩ := I
      have j4 : j < 4 := by
        refine Nat.not_le.mp fun z => ?_
        rw [List.getElem?_eq_none (show 4 ≤ j from z)] at e
        cases e
      rcases (show j = 0 ∨ j = 1 ∨ j = 2 ∨ j = 3 by omega) with rfl | rfl | rfl | rfl
      · cases e
        exact ⟨rfl, rfl, show 0 < sizeLine by decide, show 5 ≤ sizeLine by decide, nx _ _ ⟨rfl, _, _, _, _, _, rfl⟩⟩
      · cases e
        exact ⟨rfl, rfl, show 1 < sizeLine by decide, show 5 ≤ sizeLine by decide, nx _ _ ⟨rfl, _, _, _, _, _, rfl⟩⟩
      · cases e
        exact ⟨rfl, rfl, show 2 < sizeLine by decide, show 5 ≤ sizeLine by decide, nx _ _ ⟨rfl, _, _, _, _, _, rfl⟩⟩
      · cases e
        exact ⟨rfl, rfl, show 3 < sizeLine by decide, show 5 ≤ sizeLine by decide, nx _ _ ⟨rfl, _, _, _, _, _, rfl⟩⟩
    · obtain ⟨rfl, a8, a9, a10, a11, a12, rfl⟩ := I
      refine hM2 _ _ ?_
      exact q


theorem at_parts_of (T : Txt K mg) (B : BaseT K mg base) (KX : K.In base) (PS : Sup P mf) (A_difference : FnAt P w K mg base 1 "difference" ["one", "other"] sp_difference) (A_first_from : FnAt P w K mg base 1 "first_from" ["line", "least", "low", "high"] sp_first_from) : FnAt P w K mg base 2 "parts_of" ["one", "other", "low", "high"] sp_parts_of :=
  fn_at (c := c_parts_of) T.d_parts_of sc_parts_of (fun f cdv A outer s H E hr => by
    have nd := sc_parts_of.nd
    exact (css_cons (cs_if (ct_cmp op_ltD (CE.bo (ce_ix (CE.bo (ce_f A_difference hr (ca_cons (ce_v 0) (ca_cons (ce_v 1) ca_nil)))) ce_i)) (CE.bo ce_i))
    (css_one (cs_par rfl nd (ca_cons (ce_v 1) (ca_cons (ce_v 0) ca_nil))))
    css_nil)
    (css_cons (cs_asg (ce_tup (ca_cons (ce_f A_difference hr (ca_cons (ce_v 0) (ca_cons (ce_v 1) ca_nil))) (ca_cons (ce_bf (bf_max2 rfl) T.n_max (cba_cons (CE.bo (ce_v 2)) (cba_cons (CE.bo (ce_v 3)) cba_nil))) ca_nil))) (cg_u rfl (cgs_cons (cg_n 4 nd) (cgs_cons (cg_n 3 nd) cgs_nil))))
    (css_cons (cs_set nd (ce_lst (ca_cons (ce_v 2) (ca_star (ce_lc rfl nd (own := [("least", 13)]) (ci_e (ce_tup (ca_cons (ce_op op_subD (CE.bo ce_i) (CE.bo (ce_ix (CE.bo (ce_v 4)) ce_i))) (ca_cons ce_i (ca_cons (ce_ix (CE.bo (ce_v 4)) ce_i) ca_nil))))) (blkOk_by (N := ["one", "other", "low", "high", "line", "ends", "pairs", "found", "lower", "upper", "is_far", "begin", "end", "least"]) (sc := defScope s_parts_of) (own := [("least", 13)]) (by decide +kernel)) (fun _ _ _ _ _ => (cgk_n 13 nd)) (fun _ _ _ _ _ => cts_nil) (fun _ _ _ _ _ => (ce_f A_first_from hr.b (ca_cons (ce_v 4) (ca_cons (ce_v 13) (ca_cons (ce_v 2) (ca_cons (ce_v 3) ca_nil))))))) (ca_cons (ce_v 3) ca_nil)))))
    (css_cons (cs_set nd (ce_lst (ca_cons (ce_tup (ca_cons (ce_v 1) (ca_cons (ce_v 0) (ca_cons ce_b ca_nil)))) (ca_cons (ce_tup (ca_cons (ce_v 1) (ca_cons (ce_v 0) (ca_cons ce_b ca_nil)))) (ca_cons (ce_tup (ca_cons (ce_v 0) (ca_cons (ce_v 1) (ca_cons ce_b ca_nil)))) (ca_cons (ce_tup (ca_cons (ce_v 0) (ca_cons (ce_v 1) (ca_cons ce_b ca_nil)))) ca_nil))))))
    (css_cons (cs_setO nd ca_nil)
    (css_cons (cs_for hr.p rfl (ci_zip3 T.n_zip (ce_v 6) (ce_v 5) (ce_sl (CE.bo (ce_v 5)) (co_some ce_i) co_none)) (cg_u rfl (cgs_cons (cg_u rfl (cgs_cons (cg_n 8 nd) (cgs_cons (cg_n 9 nd) (cgs_cons (cg_n 10 nd) cgs_nil)))) (cgs_cons (cg_n 11 nd) (cgs_cons (cg_n 12 nd) cgs_nil))))
    (css_one (cs_app 7 (ce_tup (ca_cons (ce_v 8) (ca_cons (ce_v 9) (ca_cons (ce_v 11) (ca_cons (ce_v 12) (ca_cons (ce_v 10) ca_nil)))))))))
    (css_one (cs_ret (cb_o 7))))))))))
    (fun ds hc Q E h => len_parts_of h) (fun ds hc Q E h => pure_parts_of h) (fun _ _ _ _ _ _ us hl => match us, hl with | [_, _, _, _], _ => rfl)

abbrev N_first_turn : List Str := ["line", "low", "high", "a", "b", "c"]
def c_first_turn : CSx :=
  (cSeq (cAsg (cV 0) (gUn 3 (gCons' (gN 3) (gCons' (gN 4) (gCons' (gN 5) gNil')))))
    (cRet (cTup (cCons (cFn maxD2 (cCons (cC (.int 0)) (cCons (cOp subD (cV 2) (cV 1)) cNil))) (cCons (cV 3) (cCons (cOp addD (cV 4) (cOp mulD (cV 3) (cV 1))) (cCons (cV 5) cNil)))))))

def sp_first_turn : Spc := fun ds hc Q _ => ∃ a b c lo hi, ds = [.tup [.int a, .int b, .int c], .int lo, .int hi] ∧ MulOk a lo ∧ Q (t_first a b c lo hi).d hc
theorem len_first_turn {ds : List D} {hc : CH} {Q E} (h : sp_first_turn ds hc Q E) : ds.length = 3 := by
  obtain ⟨a, b, c, lo, hi, rfl, _⟩ := h
  rfl
theorem pure_first_turn {ds : List D} {hc : CH} {Q : D → CH → Prop} {E} (h : sp_first_turn ds hc Q E) : c_first_turn { nx := fun _ hc' => Q .non hc', rt := Q, xp := fun x _ hc' => E x hc' } (startC N_first_turn ds) hc := by
  obtain ⟨a, b, c, lo, hi, rfl, h1, q⟩ := h
  unfold c_first_turn N_first_turn
  refine seq_step fun M hM => ?_
  refine ⟨rfl, hM _ _ ?_⟩
  walk_at "n"
  exact ⟨h1, by decide, q⟩


theorem at_first_turn (T : Txt K mg) (B : BaseT K mg base) (KX : K.In base) (PS : Sup P mf)  : FnAt P w K mg base 1 "first_turn" ["line", "low", "high"] sp_first_turn :=
  fn_at (c := c_first_turn) T.d_first_turn sc_first_turn (fun f cdv A outer s H E hr => by
    have nd := sc_first_turn.nd
    exact (css_cons (cs_asg (ce_v 0) (cg_u rfl (cgs_cons (cg_n 3 nd) (cgs_cons (cg_n 4 nd) (cgs_cons (cg_n 5 nd) cgs_nil)))))
    (css_one (cs_ret (CE.bo (ce_tup (ca_cons (ce_bf (bf_max2 rfl) T.n_max (cba_cons (CE.bo ce_i) (cba_cons (CE.bo (ce_op op_subD (CE.bo (ce_v 2)) (CE.bo (ce_v 1)))) cba_nil))) (ca_cons (ce_v 3) (ca_cons (ce_op op_addD (CE.bo (ce_v 4)) (CE.bo (ce_op op_mulD (CE.bo (ce_v 3)) (CE.bo (ce_v 1))))) (ca_cons (ce_v 5) ca_nil))))))))))
    (fun ds hc Q E h => len_first_turn h) (fun ds hc Q E h => pure_first_turn h) (fun _ _ _ _ _ _ us hl => match us, hl with | [_, _, _], _ => rfl)

abbrev N_next_turn : List Str := ["turn", "n", "a", "b", "c", "top"]
def c_next_turn : CSx :=
  (cSeq (cAsg (cV 0) (gUn 4 (gCons' (gN 1) (gCons' (gN 2) (gCons' (gN 3) (gCons' (gN 4) gNil'))))))
    (cSeq (cAsg (cOp addD (cOp mulD (cOp modD (cV 2) (cV 4)) (cV 1)) (cOp modD (cV 3) (cV 4))) (gN 5))
    (cSeq (cIfS (cOr (cT (cOp leD (cV 1) (cC (.int 4)))) (cT (cOp ltD (cV 5) (cV 4))))
    (cRet (cC .non))
    cNext)
    (cRet (cTup (cCons (cOp fdivD (cV 5) (cV 4)) (cCons (cV 4) (cCons (cOp modD (cV 5) (cV 4)) (cCons (cOp modD (cV 2) (cV 4)) cNil)))))))))

def optD : Option Tn → D
  | some u => u.d
  | none => .non
def sp_next_turn : Spc := fun ds hc Q _ => ∃ t : Tn, ds = [t.d] ∧ t.Bd ∧ Q (optD t.next) hc
theorem len_next_turn {ds : List D} {hc : CH} {Q E} (h : sp_next_turn ds hc Q E) : ds.length = 1 := by
  obtain ⟨t, rfl, _⟩ := h
  rfl
theorem pure_next_turn {ds : List D} {hc : CH} {Q : D → CH → Prop} {E} (h : sp_next_turn ds hc Q E) : c_next_turn { nx := fun _ hc' => Q .non hc', rt := Q, xp := fun x _ hc' => E x hc' } (startC N_next_turn ds) hc := by
  obtain ⟨⟨n, a, b, c⟩, rfl, bd, q⟩ := h
  obtain ⟨⟨n0, c0⟩, nb, ab, bb, cb⟩ := bd
  have r0 : 0 ≤ a % c := Int.emod_nonneg _ (by have : 0 < c := c0; omega)
  have r1 : a % c < c := Int.emod_lt_of_pos _ c0
  have nb' : n.natAbs < bB := nb
  have cb' : c.natAbs < bB := cb
  have c0' : 0 < c := c0
  unfold c_next_turn N_next_turn
  refine seq_step fun M hM => ?_
  refine ⟨rfl, hM _ _ ?_⟩
  refine seq_step fun M hM => ?_
  walk_at "n"
  refine ⟨c0, bB_mul (by omega) nb', c0, hM _ _ ?_⟩
  have et : (⟨n, a, b, c⟩ : Tn).top = a % c * n + b % c := rfl
  rw [← et]
  refine seq_step fun M hM => ?_
  walk_at "n"
  have en : (⟨n, a, b, c⟩ : Tn).next = if n ≤ 4 ∨ (⟨n, a, b, c⟩ : Tn).top < c then none else some ⟨(⟨n, a, b, c⟩ : Tn).top / c, c, (⟨n, a, b, c⟩ : Tn).top % c, a % c⟩ := rfl
  by_cases h4 : n ≤ 4
  · rw [if_pos (decide_eq_true h4)]
    rw [en, if_pos (.inl h4)] at q
    exact q
  · rw [if_neg (by rw [decide_eq_false h4]; exact Bool.false_ne_true)]
    by_cases hl : (⟨n, a, b, c⟩ : Tn).top < c
    · rw [if_pos (decide_eq_true hl)]
      rw [en, if_pos (.inr hl)] at q
      exact q
    · rw [if_neg (by rw [decide_eq_false hl]; exact Bool.false_ne_true)]
      rw [en, if_neg (by omega)] at q
      refine hM _ _ ?_
      walk_at "n"
      exact ⟨bB_div c0 cb', c0, c0, by decide, q⟩


theorem at_next_turn (T : Txt K mg) (B : BaseT K mg base) (KX : K.In base) (PS : Sup P mf)  : FnAt P w K mg base 1 "next_turn" ["turn"] sp_next_turn :=
  fn_at (c := c_next_turn) T.d_next_turn sc_next_turn (fun f cdv A outer s H E hr => by
    have nd := sc_next_turn.nd
    exact (css_cons (cs_asg (ce_v 0) (cg_u rfl (cgs_cons (cg_n 1 nd) (cgs_cons (cg_n 2 nd) (cgs_cons (cg_n 3 nd) (cgs_cons (cg_n 4 nd) cgs_nil))))))
    (css_cons (cs_set nd (ce_op op_addD (CE.bo (ce_op op_mulD (CE.bo (ce_op op_modD (CE.bo (ce_v 2)) (CE.bo (ce_v 4)))) (CE.bo (ce_v 1)))) (CE.bo (ce_op op_modD (CE.bo (ce_v 3)) (CE.bo (ce_v 4))))))
    (css_cons (cs_if (CW.t (cw_or (ct_cmp op_leD (CE.bo (ce_v 1)) (CE.bo (ce_gc (T.k_SMALL)))) (cw_or1 (ct_cmp op_ltD (CE.bo (ce_v 5)) (CE.bo (ce_v 4))))))
    (css_one (cs_ret (CE.bo ce_n)))
    css_nil)
    (css_one (cs_ret (CE.bo (ce_tup (ca_cons (ce_op op_fdivD (CE.bo (ce_v 5)) (CE.bo (ce_v 4))) (ca_cons (ce_v 4) (ca_cons (ce_op op_modD (CE.bo (ce_v 5)) (CE.bo (ce_v 4))) (ca_cons (ce_op op_modD (CE.bo (ce_v 2)) (CE.bo (ce_v 4))) ca_nil))))))))))))
    (fun ds hc Q E h => len_next_turn h) (fun ds hc Q E h => pure_next_turn h) (fun _ _ _ _ _ _ us hl => match us, hl with | [_], _ => rfl)

abbrev N_value_at : List Str := ["line", "x", "a", "b", "c"]
def c_value_at : CSx :=
  (cSeq (cAsg (cV 0) (gUn 3 (gCons' (gN 2) (gCons' (gN 3) (gCons' (gN 4) gNil')))))
    (cRet (cOp fdivD (cOp addD (cOp mulD (cV 2) (cV 1)) (cV 3)) (cV 4))))

def sp_value_at : Spc := fun ds hc Q _ => ∃ a b c x, ds = [.tup [.int a, .int b, .int c], .int x] ∧ MulOk a x ∧ DivOk (a * x + b) c ∧ Q (.int ((a * x + b) / c)) hc
theorem len_value_at {ds : List D} {hc : CH} {Q E} (h : sp_value_at ds hc Q E) : ds.length = 2 := by
  obtain ⟨a, b, c, x, rfl, _⟩ := h
  rfl
theorem pure_value_at {ds : List D} {hc : CH} {Q : D → CH → Prop} {E} (h : sp_value_at ds hc Q E) : c_value_at { nx := fun _ hc' => Q .non hc', rt := Q, xp := fun x _ hc' => E x hc' } (startC N_value_at ds) hc := by
  obtain ⟨a, b, c, x, rfl, h1, h2, q⟩ := h
  exact ⟨rfl, h1, h2, q⟩


theorem at_value_at (T : Txt K mg) (B : BaseT K mg base) (KX : K.In base) (PS : Sup P mf)  : FnAt P w K mg base 1 "value_at" ["line", "x"] sp_value_at :=
  fn_at (c := c_value_at) T.d_value_at sc_value_at (fun f cdv A outer s H E hr => by
    have nd := sc_value_at.nd
    exact (css_cons (cs_asg (ce_v 0) (cg_u rfl (cgs_cons (cg_n 2 nd) (cgs_cons (cg_n 3 nd) (cgs_cons (cg_n 4 nd) cgs_nil)))))
    (css_one (cs_ret (CE.bo (ce_op op_fdivD (CE.bo (ce_op op_addD (CE.bo (ce_op op_mulD (CE.bo (ce_v 2)) (CE.bo (ce_v 1)))) (CE.bo (ce_v 3)))) (CE.bo (ce_v 4))))))))
    (fun ds hc Q E h => len_value_at h) (fun ds hc Q E h => pure_value_at h) (fun _ _ _ _ _ _ us hl => match us, hl with | [_, _], _ => rfl)

abbrev N_sum_of_turn : List Str := ["turn", "more", "n", "a", "b", "c", "x"]
def c_sum_of_turn : CSx :=
  (cSeq (cAsg (cV 0) (gUn 4 (gCons' (gN 2) (gCons' (gN 3) (gCons' (gN 4) (gCons' (gN 5) gNil'))))))
    (cSeq (cIfS (cT (cOp leD (cV 2) (cC (.int 4))))
    (cRet (cFn sumD (cCons (cLc (cR1 (cCons (cV 2) cNil)) (gN 6) cYes (cCall sp_value_at (cCons (cTup (cCons (cV 3) (cCons (cV 4) (cCons (cV 5) cNil)))) (cCons (cV 6) cNil))) [6]) cNil)))
    cNext)
    (cRet (cOp addD (cOp addD (cOp mulD (cOp fdivD (cV 3) (cV 5)) (cOp fdivD (cOp mulD (cV 2) (cOp subD (cV 2) (cC (.int 1)))) (cC (.int 2)))) (cOp mulD (cOp fdivD (cV 4) (cV 5)) (cV 2))) (cV 1)))))

def sp_sum_of_turn : Spc := fun ds hc Q _ => ∃ (t : Tn) (s : Int), ds = [t.d, .int s] ∧ t.Bd ∧ Q (.int (t.sum s)) hc
theorem len_sum_of_turn {ds : List D} {hc : CH} {Q E} (h : sp_sum_of_turn ds hc Q E) : ds.length = 2 := by
  obtain ⟨t, s, rfl, _⟩ := h
  rfl
theorem pure_sum_of_turn {ds : List D} {hc : CH} {Q : D → CH → Prop} {E} (h : sp_sum_of_turn ds hc Q E) : c_sum_of_turn { nx := fun _ hc' => Q .non hc', rt := Q, xp := fun x _ hc' => E x hc' } (startC N_sum_of_turn ds) hc := by
  obtain ⟨⟨n, a, b, c⟩, s, rfl, bd, q⟩ := h
  obtain ⟨⟨n0, c0⟩, nb, ab, bb, cb⟩ := bd
  have nb' : n.natAbs < bB := nb
  have ab' : a.natAbs < bB := ab
  have bb' : b.natAbs < bB := bb
  have cb' : c.natAbs < bB := cb
  have c0' : 0 < c := c0
  have n0' : 0 ≤ n := n0
  have es : (⟨n, a, b, c⟩ : Tn).sum s = if n ≤ 4 then lineN n a b c else a / c * (n * (n - 1) / 2) + b / c * n + s := rfl
  rw [es] at q
  unfold c_sum_of_turn N_sum_of_turn
  refine seq_step fun M hM => ?_
  refine ⟨rfl, hM _ _ ?_⟩
  refine seq_step fun M hM => ?_
  walk_at "n"
  by_cases h4 : n ≤ 4
  · rw [if_pos (decide_eq_true h4)]
    rw [if_pos h4] at q
    refine lc_step fun R hR => ?_
    walk_at "n"
    refine hR _ _ (onI fun x => (a * x + b) / c) (by rw [rng_len, sizeLine_eq]; omega) (fun d hd Nx k => ?_) ?_
    · obtain ⟨x, rfl, x0, x1⟩ := rng_mem hd
      walk_at "n"
      exact ⟨by decide, _, _, _, _, rfl, mulOk_r (by omega), bB_div c0 cb', k⟩
    · rw [rng_map]
      refine o_sum ?_
      rw [sumN_range (fun k => (a * (0 + (k : Int)) + b) / c), Int.sub_zero]
      have e : sumN n.toNat (fun k => (a * (0 + (k : Int)) + b) / c) = lineN n a b c := sumN_congr fun i _ => by rw [Int.zero_add]
      rw [e]
      exact q
  · rw [if_neg (by rw [decide_eq_false h4]; exact Bool.false_ne_true)]
    rw [if_neg h4] at q
    refine hM _ _ ?_
    walk_at "n"
    have h1 : (a / c).natAbs ≤ a.natAbs := ediv_up c0
    have h2 : (b / c).natAbs ≤ b.natAbs := ediv_up c0
    have h3 : (n * (n - 1) / 2).natAbs ≤ (n * (n - 1)).natAbs := ediv_up (by decide)
    have h5 : (n * (n - 1)).natAbs ≤ bB * bB := by
      rw [Int.natAbs_mul]
      exact Nat.mul_le_mul (by omega) (by omega)
    exact ⟨bB_div c0 cb', bB_mul nb' (by omega), divOk 2 (by decide) (by decide) (by decide), bB_wide (by omega) (by omega), bB_div c0 cb', bB_mul (by omega) nb', q⟩


theorem at_sum_of_turn (T : Txt K mg) (B : BaseT K mg base) (KX : K.In base) (PS : Sup P mf) (A_value_at : FnAt P w K mg base 1 "value_at" ["line", "x"] sp_value_at) : FnAt P w K mg base 2 "sum_of_turn" ["turn", "more"] sp_sum_of_turn :=
  fn_at (c := c_sum_of_turn) T.d_sum_of_turn sc_sum_of_turn (fun f cdv A outer s H E hr => by
    have nd := sc_sum_of_turn.nd
    exact (css_cons (cs_asg (ce_v 0) (cg_u rfl (cgs_cons (cg_n 2 nd) (cgs_cons (cg_n 3 nd) (cgs_cons (cg_n 4 nd) (cgs_cons (cg_n 5 nd) cgs_nil))))))
    (css_cons (cs_if (ct_cmp op_leD (CE.bo (ce_v 2)) (CE.bo (ce_gc (T.k_SMALL))))
    (css_one (cs_ret (CE.bo (ce_bf (bf_sum rfl) T.n_sum (cba_cons (CE.bo (ce_lc rfl nd (own := [("x", 6)]) (ci_r1 T.n_range (ca_cons (ce_v 2) ca_nil)) (blkOk_by (N := ["turn", "more", "n", "a", "b", "c", "x"]) (sc := defScope s_sum_of_turn) (own := [("x", 6)]) (by decide +kernel)) (fun _ _ _ _ _ => (cgk_n 6 nd)) (fun _ _ _ _ _ => cts_nil) (fun _ _ _ _ _ => (ce_f A_value_at hr.b (ca_cons (ce_tup (ca_cons (ce_v 3) (ca_cons (ce_v 4) (ca_cons (ce_v 5) ca_nil)))) (ca_cons (ce_v 6) ca_nil)))))) cba_nil)))))
    css_nil)
    (css_one (cs_ret (CE.bo (ce_op op_addD (CE.bo (ce_op op_addD (CE.bo (ce_op op_mulD (CE.bo (ce_op op_fdivD (CE.bo (ce_v 3)) (CE.bo (ce_v 5)))) (CE.bo (ce_op op_fdivD (CE.bo (ce_op op_mulD (CE.bo (ce_v 2)) (CE.bo (ce_op op_subD (CE.bo (ce_v 2)) (CE.bo ce_i))))) (CE.bo ce_i))))) (CE.bo (ce_op op_mulD (CE.bo (ce_op op_fdivD (CE.bo (ce_v 4)) (CE.bo (ce_v 5)))) (CE.bo (ce_v 2)))))) (CE.bo (ce_v 1)))))))))
    (fun ds hc Q E h => len_sum_of_turn h) (fun ds hc Q E h => pure_sum_of_turn h) (fun _ _ _ _ _ _ us hl => match us, hl with | [_, _], _ => rfl)

abbrev N_sum_rows : List Str := ["line", "low", "high", "turns", "turn", "rows", "total"]
def c_sum_rows : CSx :=
  (cSeq (cParO 3 4 (cCall sp_first_turn (cCons (cV 0) (cCons (cV 1) (cCons (cV 2) cNil)))))
    (cSeq (cWhile (cT (cOp notND (cV 4) (cC .non)))
    (cSeq (cApp 3 (cV 4))
    (cAsg (cCall sp_next_turn (cCons (cV 4) cNil)) (gN 4))))
    (cSeq (cParO 5 6 (cC (.int 0)))
    (cSeq (cFor (cIt (cUn revB (cO 3))) (gN 4)
    (cSeq (cAsg (cCall sp_sum_of_turn (cCons (cV 4) (cCons (cV 6) cNil))) (gN 6))
    (cApp 5 (cTup (cStar (cV 4) (cCons (cV 6) cNil))))))
    (cRet (cFn tupleFD (cCons (cUn revB (cO 5)) cNil)))))))

def sp_sum_rows : Spc := fun ds hc Q _ => ∃ a b c lo hi, ds = [.tup [.int a, .int b, .int c], .int lo, .int hi] ∧ MulOk a lo ∧ (t_first a b c lo hi).Bd ∧ ∀ ts, Ch (t_first a b c lo hi) ts → ts.length ≤ 9000 → Q (.tup (rowsD ts)) hc
theorem len_sum_rows {ds : List D} {hc : CH} {Q E} (h : sp_sum_rows ds hc Q E) : ds.length = 3 := by
  obtain ⟨a, b, c, lo, hi, rfl, _⟩ := h
  rfl
/-- what the first loop keeps: done turns, the turn at hand -/
def TurnsI (t0 : Tn) (m : Nat) (done : List Tn) (cur : Option Tn) : Prop := match cur with
  | some t => t.Bd ∧ (∀ l, Ch t l → Ch t0 (done ++ l)) ∧ ((done = [] ∧ t = t0 ∧ m = 8002) ∨ (Fu (m - 1) t ∧ done.length + m ≤ 8002))
  | none => Ch t0 done ∧ done.length ≤ 8002
theorem turnsI_next {t0 t : Tn} {m : Nat} {done : List Tn} (h : TurnsI t0 m done (some t)) : ∃ m', m' < m ∧ TurnsI t0 m' (done ++ [t]) t.next := by
  obtain ⟨bd, ch, fu⟩ := h
  have hm : 1 < m := by
    rcases fu with ⟨_, _, rfl⟩ | ⟨fu, _⟩
    · decide
    · have := fu.pos bd.toOk; omega
  cases e : t.next with
  | none =>
    refine ⟨0, by omega, ch _ (.last e), ?_⟩
    rw [List.length_append, List.length_singleton]
    rcases fu with ⟨rfl, _, rfl⟩ | ⟨fu, l⟩
    · decide
    · omega
  | some u =>
    have ch2 : ∀ l, Ch u l → Ch t0 ((done ++ [t]) ++ l) := fun l hl => by
      rw [List.append_assoc]
      exact ch _ (.more e hl)
    rcases fu with ⟨rfl, _, rfl⟩ | ⟨fu, l⟩
    · exact ⟨8001, by decide, (bd.next e).1, ch2, .inr ⟨Fu.first bd e, Nat.le_refl _⟩⟩
    · obtain ⟨k, rfl⟩ : ∃ k, m = k + 2 := ⟨m - 2, by omega⟩
      refine ⟨k + 1, by omega, (bd.next e).1, ch2, .inr ⟨Fu.next (k := k) fu bd.toOk e, ?_⟩⟩
      rw [List.length_append, List.length_singleton]
      omega
theorem pure_sum_rows {ds : List D} {hc : CH} {Q : D → CH → Prop} {E} (h : sp_sum_rows ds hc Q E) : c_sum_rows { nx := fun _ hc' => Q .non hc', rt := Q, xp := fun x _ hc' => E x hc' } (startC N_sum_rows ds) hc := by
  obtain ⟨a, b, c, lo, hi, rfl, h1, bd, q⟩ := h
  unfold c_sum_rows N_sum_rows
  refine seq_step fun M hM => ?_
  walk_at "n"
  refine ⟨a, b, c, lo, hi, rfl, h1, hM _ _ ?_⟩
  revert q bd
  generalize t_first a b c lo hi = t0
  intro bd q
  refine seq_step fun M2 hM2 => ?_
  walk_at "n"
  refine wh_inv (fun m sc h => h = hc ∧ ∃ done cur, sc = [.val (.tup [.int a, .int b, .int c]), .val (.int lo), .val (.int hi), .own (done.map Tn.d), .val (optD cur), .un, .un] ∧ TurnsI t0 m done cur) (fun m sc h Nx I nx => ?_) (m := 8002) ⟨rfl, [], some t0, rfl, bd, fun l hl => hl, .inl ⟨rfl, rfl, rfl⟩⟩
  obtain ⟨rfl, done, cur, rfl, I⟩ := I
  cases cur with
  | some t =>
    simp only [optD, Tn.d]
    walk_at "n"
    have hl : done.length ≤ 8002 := by
      rcases I.2.2 with ⟨rfl, _, _⟩ | ⟨_, l⟩
      · decide
      · omega
    refine seq_step fun M3 hM3 => ?_
    walk_at "n"
    refine ⟨by rw [List.length_map, sizeLine_eq]; omega, hM3 _ _ ?_⟩
    walk_at "n"
    refine ⟨t, rfl, I.1, ?_⟩
    walk_at "n"
    obtain ⟨m', lm, I2⟩ := turnsI_next I
    refine nx m' _ _ lm ⟨rfl, done ++ [t], t.next, ?_, I2⟩
    rw [List.map_append]
    rfl
  | none =>
    simp only [optD]
    walk_at "n"
    obtain ⟨ch, hl⟩ := I
    refine hM2 _ _ ?_
    refine seq_step fun M3 hM3 => ?_
    walk_at "n"
    refine hM3 _ _ ?_
    refine seq_step fun M4 hM4 => ?_
    refine for_step fun R hR => ?_
    walk_at "n"
    refine hR _ _ (fun i sc h' => h' = h ∧ ∃ k o, k + i = done.length ∧ sc = [.val (.tup [.int a, .int b, .int c]), .val (.int lo), .val (.int hi), .own (done.map Tn.d), o, .own (rowsD (done.drop k)).reverse, .val (.int (tot (done.drop k)))]) ⟨rfl, done.length, _, rfl, by rw [List.drop_length]; rfl⟩ (fun j d sc h' Nx e I nx => ?_) (fun sc h' I => ?_)
    · obtain ⟨rfl, k, o, hk, rfl⟩ := I
      rw [← List.map_reverse, List.getElem?_map] at e
      cases e2 : done.reverse[j]? with
      | none => rw [e2] at e; cases e
      | some t =>
        rw [e2] at e
        cases e
        obtain ⟨k2, hk2, ed⟩ := rows_drop e2
        obtain rfl : k = k2 + 1 := by omega
        walk_at "n"
        refine seq_step fun M5 hM5 => ?_
        walk_at "n"
        refine ⟨t, _, rfl, ch.bd bd t (List.mem_reverse.mp (List.mem_of_getElem? e2)), hM5 _ _ ?_⟩
        walk_at "n"
        refine ⟨by rw [List.length_reverse, rowsD_len, List.length_drop, sizeLine_eq]; omega, ?_⟩
        refine ⟨by show 4 + 1 ≤ sizeLine; decide, nx _ _ ⟨rfl, k2, .val t.d, by omega, ?_⟩⟩
        rw [ed]
        show _ = [_, _, _, _, _, Sl.own (rowsD (t :: done.drop (k2 + 1))).reverse, Sl.val (.int (tot (t :: done.drop (k2 + 1))))]
        rw [rowsD_cons, List.reverse_cons]
        rfl
    · obtain ⟨rfl, k, o, hk, rfl⟩ := I
      obtain rfl : k = 0 := by rw [List.length_reverse, List.length_map] at hk; omega
      refine hM4 _ _ ?_
      walk_at "n"
      rw [List.reverse_reverse, List.drop_zero]
      exact q done ch (by omega)


theorem at_sum_rows (T : Txt K mg) (B : BaseT K mg base) (KX : K.In base) (PS : Sup P mf) (A_first_turn : FnAt P w K mg base 1 "first_turn" ["line", "low", "high"] sp_first_turn) (A_next_turn : FnAt P w K mg base 1 "next_turn" ["turn"] sp_next_turn) (A_sum_of_turn : FnAt P w K mg base 2 "sum_of_turn" ["turn", "more"] sp_sum_of_turn) : FnAt P w K mg base 3 "sum_rows" ["line", "low", "high"] sp_sum_rows :=
  fn_at (c := c_sum_rows) T.d_sum_rows sc_sum_rows (fun f cdv A outer s H E hr => by
    have nd := sc_sum_rows.nd
    exact (css_cons (cs_parO rfl nd (ce_f A_first_turn hr (ca_cons (ce_v 0) (ca_cons (ce_v 1) (ca_cons (ce_v 2) ca_nil)))))
    (css_cons (cs_while hr.p (ct_cmp op_notND (CE.bo (ce_v 4)) (CE.bo ce_n))
    (css_cons (cs_app 3 (ce_v 4))
    (css_one (cs_set nd (ce_f A_next_turn hr (ca_cons (ce_v 4) ca_nil))))))
    (css_cons (cs_parO rfl nd ce_i)
    (css_cons (cs_for hr.p rfl (ci_e (ce_revB (cb_o 3))) (cg_n 4 nd)
    (css_cons (cs_set nd (ce_f A_sum_of_turn hr (ca_cons (ce_v 4) (ca_cons (ce_v 6) ca_nil))))
    (css_one (cs_app 5 (ce_tup (ca_star (ce_v 4) (ca_cons (ce_v 6) ca_nil)))))))
    (css_one (cs_ret (CE.bo (ce_bt bt_tuple T.n_tuple (cba_cons (CE.bo (ce_revB (cb_o 5))) cba_nil))))))))))
    (fun ds hc Q E h => len_sum_rows h) (fun ds hc Q E h => pure_sum_rows h) (fun _ _ _ _ _ _ us hl => match us, hl with | [_, _, _], _ => rfl)

abbrev N_sum_of : List Str := ["line", "low", "high"]
def c_sum_of : CSx :=
  (cRet (cOp ixD (cOp ixD (cCall sp_sum_rows (cCons (cV 0) (cCons (cV 1) (cCons (cV 2) cNil)))) (cC (.int 0))) (cC (.int 4))))

def sp_sum_of : Spc := fun ds hc Q _ => ∃ a b c lo hi, ds = [.tup [.int a, .int b, .int c], .int lo, .int hi] ∧ MulOk a lo ∧ (t_first a b c lo hi).Bd ∧ Q (.int (lineN (hi - lo) a (b + a * lo) c)) hc
theorem len_sum_of {ds : List D} {hc : CH} {Q E} (h : sp_sum_of ds hc Q E) : ds.length = 3 := by
  obtain ⟨a, b, c, lo, hi, rfl, _⟩ := h
  rfl
theorem pure_sum_of {ds : List D} {hc : CH} {Q : D → CH → Prop} {E} (h : sp_sum_of ds hc Q E) : c_sum_of { nx := fun _ hc' => Q .non hc', rt := Q, xp := fun x _ hc' => E x hc' } (startC N_sum_of ds) hc := by
  obtain ⟨a, b, c, lo, hi, rfl, h1, bd, q⟩ := h
  unfold c_sum_of N_sum_of
  walk_at "n"
  refine ⟨a, b, c, lo, hi, rfl, h1, bd, fun ts ch hl => ?_⟩
  have e := tot_ok ch bd.toOk
  obtain ⟨r, rfl⟩ := ch.head
  show oth (atI (rowD (t_first a b c lo hi) (tot (t_first a b c lo hi :: r)) :: rowsD r) 0) _
  refine oth_some (atI_nat' (j := 0) rfl rfl) ?_
  show oth (atI [D.int (t_first a b c lo hi).n, D.int (t_first a b c lo hi).a, D.int (t_first a b c lo hi).b, D.int (t_first a b c lo hi).c, D.int (tot (t_first a b c lo hi :: r))] 4) _
  refine oth_some (atI_nat' (j := 4) rfl rfl) ?_
  rw [e]
  show Q (.int (lineN (t_first a b c lo hi).n a (b + a * lo) c)) hc
  rw [line_first]
  exact q


theorem at_sum_of (T : Txt K mg) (B : BaseT K mg base) (KX : K.In base) (PS : Sup P mf) (A_sum_rows : FnAt P w K mg base 3 "sum_rows" ["line", "low", "high"] sp_sum_rows) : FnAt P w K mg base 4 "sum_of" ["line", "low", "high"] sp_sum_of :=
  fn_at (c := c_sum_of) T.d_sum_of sc_sum_of (fun f cdv A outer s H E hr => by
    have nd := sc_sum_of.nd
    exact (css_one (cs_ret (CE.bo (ce_ix (CE.bo (ce_ix (CE.bo (ce_f A_sum_rows hr (ca_cons (ce_v 0) (ca_cons (ce_v 1) (ca_cons (ce_v 2) ca_nil))))) ce_i)) ce_i)))))
    (fun ds hc Q E h => len_sum_of h) (fun ds hc Q E h => pure_sum_of h) (fun _ _ _ _ _ _ us hl => match us, hl with | [_, _, _], _ => rfl)

abbrev N_count_in : List Str := ["part", "end", "lower", "upper", "low", "high", "is_far"]
def c_count_in : CSx :=
  (cSeq (cAsg (cV 0) (gUn 5 (gCons' (gN 2) (gCons' (gN 3) (gCons' (gN 4) (gCons' (gN 5) (gCons' (gN 6) gNil')))))))
    (cRet (cIf (cT (cV 6)) (cOp subD (cV 1) (cV 4)) (cOp subD (cCall sp_sum_of (cCons (cV 3) (cCons (cV 4) (cCons (cV 1) cNil)))) (cCall sp_sum_of (cCons (cV 2) (cCons (cV 4) (cCons (cV 1) cNil))))))))

def sp_count_in : Spc := fun ds hc Q _ => ∃ (p : Pt) (e : Int), ds = [p.d, .int e] ∧ p.Ok ∧ p.lo ≤ e ∧ e ≤ p.hi ∧ Q (.int (p.cnt e)) hc
theorem len_count_in {ds : List D} {hc : CH} {Q E} (h : sp_count_in ds hc Q E) : ds.length = 2 := by
  obtain ⟨p, e, rfl, _⟩ := h
  rfl
theorem pure_count_in {ds : List D} {hc : CH} {Q : D → CH → Prop} {E} (h : sp_count_in ds hc Q E) : c_count_in { nx := fun _ hc' => Q .non hc', rt := Q, xp := fun x _ hc' => E x hc' } (startC N_count_in ds) hc := by
  obtain ⟨p, e, rfl, ok, e0, e1, q⟩ := h
  unfold c_count_in N_count_in
  have eb : e.natAbs < 2 ^ 210 := by
    have := ok.lb
    have := ok.hb
    omega
  have f := sum_far ok
  have n := sum_near ok
  obtain ⟨lo, hi, ⟨a, b, c⟩, ⟨d, g, k⟩, far⟩ := p
  simp only [Pt.d, L3.d]
  refine seq_step fun M hM => ?_
  refine ⟨rfl, hM _ _ ?_⟩
  cases far with
  | true =>
    walk_at "n"
    have f := f rfl e1 e0
    rw [← f] at q
    exact q
  | false =>
    walk_at "n"
    refine ⟨d, g, k, lo, e, rfl, ok.uk.mo ok.lb, ok.uk.bd ok.lb eb, ?_⟩
    refine ⟨a, b, c, lo, e, rfl, ok.lk.mo ok.lb, ok.lk.bd ok.lb eb, ?_⟩
    have n := n rfl e1
    rw [← n] at q
    exact q


theorem at_count_in (T : Txt K mg) (B : BaseT K mg base) (KX : K.In base) (PS : Sup P mf) (A_sum_of : FnAt P w K mg base 4 "sum_of" ["line", "low", "high"] sp_sum_of) : FnAt P w K mg base 5 "count_in" ["part", "end"] sp_count_in :=
  fn_at (c := c_count_in) T.d_count_in sc_count_in (fun f cdv A outer s H E hr => by
    have nd := sc_count_in.nd
    exact (css_cons (cs_asg (ce_v 0) (cg_u rfl (cgs_cons (cg_n 2 nd) (cgs_cons (cg_n 3 nd) (cgs_cons (cg_n 4 nd) (cgs_cons (cg_n 5 nd) (cgs_cons (cg_n 6 nd) cgs_nil)))))))
    (css_one (cs_ret (CE.bo (ce_if (ct_e (ce_v 6)) (ce_op op_subD (CE.bo (ce_v 1)) (CE.bo (ce_v 4))) (ce_op op_subD (CE.bo (ce_f A_sum_of hr (ca_cons (ce_v 3) (ca_cons (ce_v 4) (ca_cons (ce_v 1) ca_nil))))) (CE.bo (ce_f A_sum_of hr (ca_cons (ce_v 2) (ca_cons (ce_v 4) (ca_cons (ce_v 1) ca_nil))))))))))))
    (fun ds hc Q E h => len_count_in h) (fun ds hc Q E h => pure_count_in h) (fun _ _ _ _ _ _ us hl => match us, hl with | [_, _], _ => rfl)

abbrev N_counts_of : List Str := ["one", "other", "low", "high", "part"]
def c_counts_of : CSx :=
  (cRet (cLc (cIt (cCall sp_parts_of (cCons (cV 0) (cCons (cV 1) (cCons (cV 2) (cCons (cV 3) cNil)))))) (gN 4) cYes (cTup (cCons (cV 4) (cCons (cCall sp_count_in (cCons (cV 4) (cCons (cOp ixD (cV 4) (cC (.int 3))) cNil))) cNil))) [4]))

def sp_counts_of : Spc := fun ds hc Q _ => ∃ (o t : L3) (lo hi : Int), ds = [o.d, t.d, .int lo, .int hi] ∧ o.Ok ∧ t.Ok ∧ lo.natAbs < 2 ^ 210 ∧ hi.natAbs < 2 ^ 210 ∧ ∀ ps, Parts o t lo hi ps → Q (.lst (ps.map Pt.row)) hc
theorem len_counts_of {ds : List D} {hc : CH} {Q E} (h : sp_counts_of ds hc Q E) : ds.length = 4 := by
  obtain ⟨o, t, lo, hi, rfl, _⟩ := h
  rfl
theorem pure_counts_of {ds : List D} {hc : CH} {Q : D → CH → Prop} {E} (h : sp_counts_of ds hc Q E) : c_counts_of { nx := fun _ hc' => Q .non hc', rt := Q, xp := fun x _ hc' => E x hc' } (startC N_counts_of ds) hc := by
  obtain ⟨o, t, lo, hi, rfl, ok, tk, lb, hb, q⟩ := h
  unfold c_counts_of N_counts_of
  walk_at "n"
  refine lc_inv fun R hR => ?_
  walk_at "n"
  refine ⟨o, t, lo, hi, rfl, ok, tk, lb, hb, fun ps h => hR _ _ (fun i acc h' => h' = hc ∧ acc = (ps.take i).map Pt.row) ?_ ⟨rfl, rfl⟩ (fun j d acc h' Nx e I nx => ?_) (fun acc h' I => ?_)⟩
  · rw [List.length_map, h.len, sizeLine_eq]; decide
  · obtain ⟨rfl, rfl⟩ := I
    rw [List.getElem?_map] at e
    cases ej : ps[j]? with
    | none => rw [ej] at e; cases e
    | some p =>
      rw [ej] at e
      cases e
      have ok := h.ok p (List.mem_of_getElem? ej)
      walk_at "n"
      refine oth_some (x := D.int p.hi) rfl ?_
      refine ⟨p, p.hi, rfl, ok, ok.le, Int.le_refl _, by decide, nx _ _ ⟨rfl, ?_⟩⟩
      rw [List.take_add_one, ej, List.map_append]
      rfl
  · obtain ⟨rfl, rfl⟩ := I
    rw [List.length_map, List.take_length]
    exact q ps h


theorem at_counts_of (T : Txt K mg) (B : BaseT K mg base) (KX : K.In base) (PS : Sup P mf) (A_parts_of : FnAt P w K mg base 2 "parts_of" ["one", "other", "low", "high"] sp_parts_of) (A_count_in : FnAt P w K mg base 5 "count_in" ["part", "end"] sp_count_in) : FnAt P w K mg base 6 "counts_of" ["one", "other", "low", "high"] sp_counts_of :=
  fn_at (c := c_counts_of) T.d_counts_of sc_counts_of (fun f cdv A outer s H E hr => by
    have nd := sc_counts_of.nd
    exact (css_one (cs_ret (CE.bo (ce_lc rfl nd (own := [("part", 4)]) (ci_e (ce_f A_parts_of hr (ca_cons (ce_v 0) (ca_cons (ce_v 1) (ca_cons (ce_v 2) (ca_cons (ce_v 3) ca_nil)))))) (blkOk_by (N := ["one", "other", "low", "high", "part"]) (sc := defScope s_counts_of) (own := [("part", 4)]) (by decide +kernel)) (fun _ _ _ _ _ => (cgk_n 4 nd)) (fun _ _ _ _ _ => cts_nil) (fun _ _ _ _ _ => (ce_tup (ca_cons (ce_v 4) (ca_cons (ce_f A_count_in hr.b (ca_cons (ce_v 4) (ca_cons (ce_ix (CE.bo (ce_v 4)) ce_i) ca_nil))) ca_nil)))))))))
    (fun ds hc Q E h => len_counts_of h) (fun ds hc Q E h => pure_counts_of h) (fun _ _ _ _ _ _ us hl => match us, hl with | [_, _, _, _], _ => rfl)

abbrev N_count_parted : List Str := ["one", "other", "low", "high", "part", "many"]
def c_count_parted : CSx :=
  (cRet (cFn sumD (cCons (cLc (cIt (cCall sp_counts_of (cCons (cV 0) (cCons (cV 1) (cCons (cV 2) (cCons (cV 3) cNil)))))) (gTup' 2 (gCons' (gN 4) (gCons' (gN 5) gNil'))) cYes (cV 5) [4, 5]) cNil)))

def sp_count_parted : Spc := fun ds hc Q _ => ∃ (o t : L3) (lo hi : Int), ds = [o.d, t.d, .int lo, .int hi] ∧ o.Ok ∧ t.Ok ∧ lo.natAbs < 2 ^ 210 ∧ hi.natAbs < 2 ^ 210 ∧ Q (.int (cntP (Dif o t) lo (hi - lo).toNat)) hc
theorem len_count_parted {ds : List D} {hc : CH} {Q E} (h : sp_count_parted ds hc Q E) : ds.length = 4 := by
  obtain ⟨o, t, lo, hi, rfl, _⟩ := h
  rfl
theorem pure_count_parted {ds : List D} {hc : CH} {Q : D → CH → Prop} {E} (h : sp_count_parted ds hc Q E) : c_count_parted { nx := fun _ hc' => Q .non hc', rt := Q, xp := fun x _ hc' => E x hc' } (startC N_count_parted ds) hc := by
  obtain ⟨o, t, lo, hi, rfl, ok, tk, lb, hb, q⟩ := h
  unfold c_count_parted N_count_parted
  walk_at "n"
  refine lc_inv fun R hR => ?_
  walk_at "n"
  refine ⟨o, t, lo, hi, rfl, ok, tk, lb, hb, fun ps h => hR _ _ (fun i acc h' => h' = hc ∧ acc = ((ps.take i).map Pt.many).map D.int) ?_ ⟨rfl, rfl⟩ (fun j d acc h' Nx e I nx => ?_) (fun acc h' I => ?_)⟩
  · rw [List.length_map, h.len, sizeLine_eq]; decide
  · obtain ⟨rfl, rfl⟩ := I
    obtain ⟨p, ej, _, rfl⟩ := rows_at e
    walk_at "n"
    refine nx _ _ ⟨rfl, ?_⟩
    rw [List.take_add_one, ej, List.map_append, List.map_append]
    rfl
  · obtain ⟨rfl, rfl⟩ := I
    rw [List.length_map, List.take_length]
    refine o_sum ?_
    rw [← filL_len, ← h.due, ← sum_row] at q
    exact q


theorem at_count_parted (T : Txt K mg) (B : BaseT K mg base) (KX : K.In base) (PS : Sup P mf) (A_counts_of : FnAt P w K mg base 6 "counts_of" ["one", "other", "low", "high"] sp_counts_of) : FnAt P w K mg base 7 "count_parted" ["one", "other", "low", "high"] sp_count_parted :=
  fn_at (c := c_count_parted) T.d_count_parted sc_count_parted (fun f cdv A outer s H E hr => by
    have nd := sc_count_parted.nd
    exact (css_one (cs_ret (CE.bo (ce_bf (bf_sum rfl) T.n_sum (cba_cons (CE.bo (ce_lc rfl nd (own := [("part", 4), ("many", 5)]) (ci_e (ce_f A_counts_of hr (ca_cons (ce_v 0) (ca_cons (ce_v 1) (ca_cons (ce_v 2) (ca_cons (ce_v 3) ca_nil)))))) (blkOk_by (N := ["one", "other", "low", "high", "part", "many"]) (sc := defScope s_count_parted) (own := [("part", 4), ("many", 5)]) (by decide +kernel)) (fun _ _ _ _ _ => (cgk_t rfl (cgsk_cons (cgk_n 4 nd) (cgsk_cons (cgk_n 5 nd) cgsk_nil)))) (fun _ _ _ _ _ => cts_nil) (fun _ _ _ _ _ => (ce_v 5)))) cba_nil))))))
    (fun ds hc Q E h => len_count_parted h) (fun ds hc Q E h => pure_count_parted h) (fun _ _ _ _ _ _ us hl => match us, hl with | [_, _, _, _], _ => rfl)

abbrev N_is_whole : List Str := ["value"]
def c_is_whole : CSx :=
  (cRet (cAndV (cUn (isiD "int") (cV 0)) (cNotV (cUn (isiD "bool") (cV 0)))))

def sp_is_whole : Spc := fun ds hc Q _ => ∃ d, ds = [d] ∧ NoRef d ∧ Q (.bl (isW d)) hc
theorem len_is_whole {ds : List D} {hc : CH} {Q E} (h : sp_is_whole ds hc Q E) : ds.length = 1 := by
  obtain ⟨d, rfl, _⟩ := h
  rfl
theorem pure_is_whole {ds : List D} {hc : CH} {Q : D → CH → Prop} {E} (h : sp_is_whole ds hc Q E) : c_is_whole { nx := fun _ hc' => Q .non hc', rt := Q, xp := fun x _ hc' => E x hc' } (startC N_is_whole ds) hc := by
  obtain ⟨d, rfl, hn, k⟩ := h
  unfold c_is_whole N_is_whole
  cases d <;> first | exact hn.elim | (walk_at "n"; exact k)


theorem at_is_whole (T : Txt K mg) (B : BaseT K mg base) (KX : K.In base) (PS : Sup P mf)  : FnAt P w K mg base 1 "is_whole" ["value"] sp_is_whole :=
  fn_at (c := c_is_whole) T.d_is_whole sc_is_whole (fun f cdv A outer s H E hr => by
    have nd := sc_is_whole.nd
    exact (css_one (cs_ret (CE.bo (ce_and (ce_isi (n := "int") (by decide) T.n_isinstance T.n_int (CE.bo (ce_v 0))) (ce_one (ce_not (ce_isi (n := "bool") (by decide) T.n_isinstance T.n_bool (CE.bo (ce_v 0))))))))))
    (fun ds hc Q E h => len_is_whole h) (fun ds hc Q E h => pure_is_whole h) (fun _ _ _ _ _ _ us hl => match us, hl with | [_], _ => rfl)

abbrev N_is_between : List Str := ["value", "low", "high"]
def c_is_between : CSx :=
  (cRet (cAndV (cCall sp_is_whole (cCons (cV 0) cNil)) (cCh leD leD (cV 1) (cV 0) (cV 2))))

def sp_is_between : Spc := fun ds hc Q _ => ∃ d lo hi, ds = [d, .int lo, .int hi] ∧ NoRef d ∧ Q (.bl (betw d lo hi)) hc
theorem len_is_between {ds : List D} {hc : CH} {Q E} (h : sp_is_between ds hc Q E) : ds.length = 3 := by
  obtain ⟨d, lo, hi, rfl, _⟩ := h
  rfl
theorem pure_is_between {ds : List D} {hc : CH} {Q : D → CH → Prop} {E} (h : sp_is_between ds hc Q E) : c_is_between { nx := fun _ hc' => Q .non hc', rt := Q, xp := fun x _ hc' => E x hc' } (startC N_is_between ds) hc := by
  obtain ⟨d, lo, hi, rfl, hn, k⟩ := h
  unfold c_is_between N_is_between
  walk_at "n"
  refine ⟨d, rfl, hn, ?_⟩
  cases d <;> first | exact hn.elim | (unfold isW; walk_at "n"; exact k) | skip
  rename_i i
  unfold isW
  have k : Q (.bl (decide (lo ≤ i) && decide (i ≤ hi))) hc := k
  walk_at "n"
  by_cases h : lo ≤ i
  · rw [decide_eq_true h] at k ⊢
    walk_at "n"
    exact k
  · rw [decide_eq_false h] at k ⊢
    exact k


theorem at_is_between (T : Txt K mg) (B : BaseT K mg base) (KX : K.In base) (PS : Sup P mf) (A_is_whole : FnAt P w K mg base 1 "is_whole" ["value"] sp_is_whole) : FnAt P w K mg base 2 "is_between" ["value", "low", "high"] sp_is_between :=
  fn_at (c := c_is_between) T.d_is_between sc_is_between (fun f cdv A outer s H E hr => by
    have nd := sc_is_between.nd
    exact (css_one (cs_ret (CE.bo (ce_and (ce_f A_is_whole hr (ca_cons (ce_v 0) ca_nil)) (ce_one (ce_ch op_leD op_leD (CE.bo (ce_v 1)) (CE.bo (ce_v 0)) (CE.bo (ce_v 2)))))))))
    (fun ds hc Q E h => len_is_between h) (fun ds hc Q E h => pure_is_between h) (fun _ _ _ _ _ _ us hl => match us, hl with | [_, _, _], _ => rfl)

abbrev N_place_of : List Str := ["count", "low", "high", "index", "middle"]
def c_place_of (Γ : CloR) : CSx :=
  (cSeq (cWhile (cT (cOp gtD (cOp subD (cV 2) (cV 1)) (cC (.int 1))))
    (cSeq (cAsg (cOp fdivD (cOp addD (cV 1) (cV 2)) (cC (.int 2))) (gN 4))
    (cIfS (cT (cOp gtD (cCallV Γ 0 (cCons (cV 4) cNil)) (cV 3)))
    (cAsg (cV 4) (gN 2))
    (cAsg (cV 4) (gN 1)))))
    (cRet (cV 1)))

def sp_place_of : CloR → Spc := fun Γ ds hc Q E => ∃ f ws xs φ lo hi idx g, ds = [.clo f ws xs, .int lo, .int hi, .int idx] ∧ Γ f ws φ ∧ (∀ x (R : D → CH → Prop), lo < x → x < hi → R (.int (g x)) hc → φ xs [.int x] hc R (fun y hc2 => E y hc2)) ∧ ∀ r, Halved g lo hi idx r → Q (.int r) hc
theorem len_place_of {Γ : CloR} {ds : List D} {hc : CH} {Q E} (h : sp_place_of Γ ds hc Q E) : ds.length = 4 := by
  obtain ⟨f, ws, xs, φ, lo, hi, idx, g, rfl, _⟩ := h
  rfl
theorem pure_place_of {Γ : CloR} {ds : List D} {hc : CH} {Q : D → CH → Prop} {E} (h : sp_place_of Γ ds hc Q E) : c_place_of Γ { nx := fun _ hc' => Q .non hc', rt := Q, xp := fun x _ hc' => E x hc' } (startC N_place_of ds) hc := by
  obtain ⟨f, ws, xs, φ, lo, hi, idx, g, rfl, hΓ, hg, q⟩ := h
  unfold c_place_of N_place_of
  refine seq_step fun M hM => ?_
  walk_at "n"
  refine wh_inv (fun m sc h => h = hc ∧ ∃ l u o, sc = [.val (.clo f ws xs), .val (.int l), .val (.int u), .val (.int idx), o] ∧ lo ≤ l ∧ u ≤ hi ∧ (l < u ∨ (l = lo ∧ u = hi)) ∧ (l = lo ∨ g l ≤ idx) ∧ (u = hi ∨ idx < g u) ∧ m = (u - l).toNat) (fun m sc h Nx I nx => ?_) (m := (hi - lo).toNat) ⟨rfl, lo, hi, _, rfl, Int.le_refl _, Int.le_refl _, .inr ⟨rfl, rfl⟩, .inl rfl, .inl rfl, rfl⟩
  obtain ⟨rfl, l, u, o, rfl, l0, u1, lu, bl, ab, em⟩ := I
  walk_at "n"
  refine ite2 (fun z => ?_) (fun z => ?_)
  · have z := of_decide_eq_true z
    refine seq_step fun M2 hM2 => ?_
    walk_at "n"
    refine ⟨divOk 2 (by decide) (by decide) (by decide), ?_⟩
    have h1 : l < (l + u) / 2 := by omega
    have h2 : (l + u) / 2 < u := by omega
    revert h1 h2
    generalize (l + u) / 2 = x
    intro h1 h2
    refine hM2 _ _ ?_
    walk_at "n"
    refine ⟨φ, hΓ, hg x _ (by omega) (by omega) ?_⟩
    walk_at "n"
    refine ite2 (fun y => ?_) (fun y => ?_)
    · have y := of_decide_eq_true y
      walk_at "n"
      exact nx (x - l).toNat _ _ (by omega) ⟨rfl, l, x, _, rfl, l0, by omega, .inl h1, bl, .inr y, rfl⟩
    · have y : ¬ idx < g x := fun z => y (decide_eq_true z)
      walk_at "n"
      exact nx (u - x).toNat _ _ (by omega) ⟨rfl, x, u, _, rfl, by omega, u1, .inl h2, .inr (by omega), ab, rfl⟩
  · have z : ¬ (1 < u - l) := fun y => z (decide_eq_true y)
    refine hM _ _ ?_
    walk_at "n"
    refine q l ⟨l0, ?_, bl, ?_⟩
    · rcases lu with y | y
      · exact .inl (by omega)
      · exact .inr y.1
    · rcases ab with y | y
      · exact .inl (by omega)
      · by_cases w : l + 1 = u
        · exact .inr (by rw [w]; exact y)
        · rcases lu with v | v
          · omega
          · exact .inl (by omega)


theorem at_place_of (T : Txt K mg) (B : BaseT K mg base) (KX : K.In base) (PS : Sup P mf)  : FnAtH P w K mg base 6 7 "place_of" ["count", "low", "high", "index"] sp_place_of :=
  fnH_at (c := c_place_of) T.d_place_of sc_place_of (fun Γ f cdv A outer s H E hr hΓ => by
    have nd := sc_place_of.nd
    exact (css_cons (cs_while hr.p (ct_cmp op_gtD (CE.bo (ce_op op_subD (CE.bo (ce_v 2)) (CE.bo (ce_v 1)))) (CE.bo ce_i))
    (css_cons (cs_set nd (ce_op op_fdivD (CE.bo (ce_op op_addD (CE.bo (ce_v 1)) (CE.bo (ce_v 2)))) (CE.bo ce_i)))
    (css_one (cs_if (ct_cmp op_gtD (CE.bo (ce_callV hΓ hr (ca_cons (ce_v 4) ca_nil))) (CE.bo (ce_v 3)))
    (css_one (cs_set nd (ce_v 4)))
    (css_one (cs_set nd (ce_v 4)))))))
    (css_one (cs_ret (CE.bo (ce_v 1))))))
    (fun Γ ds hc Q E h => len_place_of h) (fun Γ ds hc Q E h => pure_place_of h) (fun _ _ _ _ _ _ us hl => match us, hl with | [_, _, _, _], _ => rfl)

abbrev N_place_in_parted : List Str := ["part", "index"]
def c_place_in_parted : CSx :=
  (cRet (cLamC sp_place_of [0] 1 (cCall sp_count_in (cCons (cV 1) (cCons (cV 0) cNil))) (cCons (cOp ixD (cV 0) (cC (.int 2))) (cCons (cOp ixD (cV 0) (cC (.int 3))) (cCons (cV 1) cNil)))))

def sp_place_in_parted : Spc := fun ds hc Q _ => ∃ (p : Pt) (idx : Int), ds = [p.d, .int idx] ∧ p.Ok ∧ 0 ≤ idx ∧ idx < p.many ∧ ∀ r, p.due[idx.toNat]? = some r → Q (.int r) hc
theorem len_place_in_parted {ds : List D} {hc : CH} {Q E} (h : sp_place_in_parted ds hc Q E) : ds.length = 2 := by
  obtain ⟨p, idx, rfl, _⟩ := h
  rfl
theorem pure_place_in_parted {ds : List D} {hc : CH} {Q : D → CH → Prop} {E} (h : sp_place_in_parted ds hc Q E) : c_place_in_parted { nx := fun _ hc' => Q .non hc', rt := Q, xp := fun x _ hc' => E x hc' } (startC N_place_in_parted ds) hc := by
  obtain ⟨p, idx, rfl, ok, i0, i1, q⟩ := h
  unfold c_place_in_parted N_place_in_parted
  walk_at "n"
  refine ⟨_, rfl, ?_⟩
  unfold Pt.d
  walk_at "n"
  intro f ws
  refine ⟨f, ws, _, _, p.lo, p.hi, idx, p.cnt, rfl, ⟨rfl, rfl, rfl⟩, fun x R x0 x1 k => ?_, fun r h => q r (due_at ok h i0 i1)⟩
  refine ⟨rfl, ?_⟩
  walk_at "n"
  exact ⟨p, x, rfl, ok, by omega, by omega, k⟩


theorem at_place_in_parted (T : Txt K mg) (B : BaseT K mg base) (KX : K.In base) (PS : Sup P mf) (A_count_in : FnAt P w K mg base 5 "count_in" ["part", "end"] sp_count_in) (A_place_of : FnAtH P w K mg base 6 7 "place_of" ["count", "low", "high", "index"] sp_place_of) : FnAt P w K mg base 8 "place_in_parted" ["part", "index"] sp_place_in_parted :=
  fnL_atA (c := c_place_in_parted) T.d_place_in_parted T.l_place_in_parted B KX sc_place_in_parted (fun f cdv A outer s H E hr kn => by
    have nd := sc_place_in_parted.nd
    obtain ⟨cc, Pt, rfl, hmt, TB⟩ := kn
    exact (css_one (cs_ret (CE.bo (ce_lamc (sc0 := defScope s_place_in_parted) (N := ["end", "part"]) (ps := ["end"]) (fr := ["part"]) (js := [0]) (kb := 5) A_place_of hr TB rfl hmt T.tnd (NdefX.nscope_by (by decide +kernel)) (fun q cl c1 f1 A1 outer1 s1 H1 E1 hr => (ce_f A_count_in hr (ca_cons (ce_v 1) (ca_cons (ce_v 0) ca_nil)))) (ca_cons (ce_ix (CE.bo (ce_v 0)) ce_i) (ca_cons (ce_ix (CE.bo (ce_v 0)) ce_i) (ca_cons (ce_v 1) ca_nil))) (fun _ _ _ _ _ us hl => match us, hl with | [_], _ => rfl))))))
    (fun ds hc Q E h => len_place_in_parted h) (fun ds hc Q E h => pure_place_in_parted h) (fun _ _ _ _ _ _ us hl => match us, hl with | [_, _], _ => rfl)

abbrev N_parted_at : List Str := ["one", "other", "low", "high", "index", "rows", "part", "many"]
def c_parted_at : CSx :=
  (cSeq (cAsg (cCall sp_counts_of (cCons (cV 0) (cCons (cV 1) (cCons (cV 2) (cCons (cV 3) cNil))))) (gN 5))
    (cSeq (cIfS (cNot (cT (cCall sp_is_between (cCons (cV 4) (cCons (cC (.int 0)) (cCons (cOp subD (cFn sumD (cCons (cLc (cIt (cV 5)) (gTup' 2 (gCons' (gN 6) (gCons' (gN 7) gNil'))) cYes (cV 7) [6, 7]) cNil)) (cC (.int 1))) cNil))))))
    (cRaise "NoIndex" "index" (cV 4))
    cNext)
    (cSeq (cFor (cIt (cV 5)) (gUn 2 (gCons' (gN 6) (gCons' (gN 7) gNil')))
    (cSeq (cIfS (cT (cOp ltD (cV 4) (cV 7)))
    (cRet (cCall sp_place_in_parted (cCons (cV 6) (cCons (cV 4) cNil))))
    cNext)
    (cAsg (cOp subD (cV 4) (cV 7)) (gN 4))))
    (cRaise "NoIndex" "index" (cV 4)))))

def sp_parted_at : Spc := fun ds hc Q E => ∃ (o t : L3) (lo hi : Int) (d : D), ds = [o.d, t.d, .int lo, .int hi, d] ∧ o.Ok ∧ t.Ok ∧ lo.natAbs < 2 ^ 210 ∧ hi.natAbs < 2 ^ 210 ∧ NoRef d ∧ (betw d 0 (cntP (Dif o t) lo (hi - lo).toNat - 1) = false → E ⟨"NoIndex", [("index", d)]⟩ hc) ∧ (∀ (k : Int) r, d = .int k → 0 ≤ k → (filL (Dif o t) lo (hi - lo).toNat)[k.toNat]? = some r → Q (.int r) hc)
theorem len_parted_at {ds : List D} {hc : CH} {Q E} (h : sp_parted_at ds hc Q E) : ds.length = 5 := by
  obtain ⟨o, t, lo, hi, d, rfl, _⟩ := h
  rfl
theorem betw_int {d : D} {a b : Int} (h : betw d a b = true) : ∃ k : Int, d = .int k ∧ a ≤ k ∧ k ≤ b := by
  unfold betw at h
  cases d <;> first | cases h | skip
  rename_i k
  exact ⟨k, rfl, of_decide_eq_true (Bool.and_eq_true_iff.mp h).1, of_decide_eq_true (Bool.and_eq_true_iff.mp h).2⟩
theorem pure_parted_at {ds : List D} {hc : CH} {Q : D → CH → Prop} {E} (h : sp_parted_at ds hc Q E) : c_parted_at { nx := fun _ hc' => Q .non hc', rt := Q, xp := fun x _ hc' => E x hc' } (startC N_parted_at ds) hc := by
  obtain ⟨o, t, lo, hi, d, rfl, ok, tk, lb, hb, hn, ke, kq⟩ := h
  unfold c_parted_at N_parted_at
  refine seq_step fun M hM => ?_
  walk_at "n"
  refine ⟨o, t, lo, hi, rfl, ok, tk, lb, hb, fun ps h => hM _ _ ?_⟩
  clear hM M
  refine seq_step fun M hM => ?_
  walk_at "n"
  refine lc_inv fun R hR => ?_
  walk_at "n"
  refine hR _ _ (fun i acc h' => h' = hc ∧ acc = ((ps.take i).map Pt.many).map D.int) ?_ ⟨rfl, rfl⟩ (fun j d acc h' Nx e I nx => ?_) (fun acc h' I => ?_)
  · rw [List.length_map, h.len, sizeLine_eq]; decide
  · obtain ⟨rfl, rfl⟩ := I
    obtain ⟨p, ej, _, rfl⟩ := rows_at e
    walk_at "n"
    refine nx _ _ ⟨rfl, ?_⟩
    rw [List.take_add_one, ej, List.map_append, List.map_append]
    rfl
  · obtain ⟨rfl, rfl⟩ := I
    rw [List.length_map, List.take_length]
    refine o_sum ?_
    rw [sum_row, h.due, filL_len]
    walk_at "n"
    refine ⟨d, _, _, rfl, hn, ?_⟩
    cases z : betw d 0 (cntP (Dif o t) lo (hi - lo).toNat - 1) with
    | false => exact ke z
    | true =>
      obtain ⟨k, rfl, k0, k1⟩ := betw_int z
      refine hM _ _ ?_
      clear hM M ke hR R z
      refine seq_step fun M hM => ?_
      refine for_step fun R hR => ?_
      walk_at "n"
      refine hR _ _ (fun i sc h2 => h2 = h' ∧ ∃ x y, ∃ m : Int, sc = [.val o.d, .val t.d, .val (.int lo), .val (.int hi), .val (.int m), .val (.lst (ps.map Pt.row)), x, y] ∧ 0 ≤ m ∧ k = ((ps.take i).flatMap Pt.due).length + m) ⟨rfl, _, _, k, rfl, k0, by show k = ((0 : Nat) : Int) + k; omega⟩ (fun j d sc h' Nx e I nx => ?_) (fun sc h' I => ?_)
      · obtain ⟨rfl, x, y, m, rfl, m0, ek⟩ := I
        obtain ⟨p, ej, hp, rfl⟩ := rows_at e
        refine ⟨rfl, ?_⟩
        have tl := take_len ej
        walk_at "b"
        refine seq_step fun M2 hM2 => ?_
        walk_at "n"
        refine ite2 (fun z => ?_) (fun z => ?_)
        · have z : m < p.many := of_decide_eq_true z
          refine ⟨p, m, rfl, h.ok p hp, m0, z, fun r hr => ?_⟩
          have w := due_at_part ej hr
          rw [h.due, show ((ps.take j).flatMap Pt.due).length + m.toNat = k.toNat by omega] at w
          exact kq k r rfl k0 w
        · have z : ¬ m < p.many := fun w => z (decide_eq_true w)
          refine hM2 _ _ ?_
          walk_at "n"
          exact nx _ _ ⟨rfl, _, _, m - p.many, rfl, by omega, by omega⟩
      · obtain ⟨rfl, x, y, m, rfl, m0, ek⟩ := I
        rw [List.length_map, List.take_length, h.due] at ek
        have l := filL_len (P := Dif o t) (lo := lo) (hi - lo).toNat
        omega


theorem at_parted_at (T : Txt K mg) (B : BaseT K mg base) (KX : K.In base) (PS : Sup P mf) (A_counts_of : FnAt P w K mg base 6 "counts_of" ["one", "other", "low", "high"] sp_counts_of) (A_is_between : FnAt P w K mg base 2 "is_between" ["value", "low", "high"] sp_is_between) (A_place_in_parted : FnAt P w K mg base 8 "place_in_parted" ["part", "index"] sp_place_in_parted) : FnAt P w K mg base 9 "parted_at" ["one", "other", "low", "high", "index"] sp_parted_at :=
  fn_at (c := c_parted_at) T.d_parted_at sc_parted_at (fun f cdv A outer s H E hr => by
    have nd := sc_parted_at.nd
    exact (css_cons (cs_set nd (ce_f A_counts_of hr (ca_cons (ce_v 0) (ca_cons (ce_v 1) (ca_cons (ce_v 2) (ca_cons (ce_v 3) ca_nil))))))
    (css_cons (cs_if (ct_not (ct_e (ce_f A_is_between hr (ca_cons (ce_v 4) (ca_cons ce_i (ca_cons (ce_op op_subD (CE.bo (ce_bf (bf_sum rfl) T.n_sum (cba_cons (CE.bo (ce_lc rfl nd (own := [("part", 6), ("many", 7)]) (ci_e (ce_v 5)) (blkOk_by (N := ["one", "other", "low", "high", "index", "rows", "part", "many"]) (sc := defScope s_parted_at) (own := [("part", 6), ("many", 7)]) (by decide +kernel)) (fun _ _ _ _ _ => (cgk_t rfl (cgsk_cons (cgk_n 6 nd) (cgsk_cons (cgk_n 7 nd) cgsk_nil)))) (fun _ _ _ _ _ => cts_nil) (fun _ _ _ _ _ => (ce_v 7)))) cba_nil))) (CE.bo ce_i)) ca_nil))))))
    (css_one (cs_raiseC hr T.x_NoIndex PS T.n_super (ce_v 4)))
    css_nil)
    (css_cons (cs_for hr.p rfl (ci_e (ce_v 5)) (cg_u rfl (cgs_cons (cg_n 6 nd) (cgs_cons (cg_n 7 nd) cgs_nil)))
    (css_cons (cs_if (ct_cmp op_ltD (CE.bo (ce_v 4)) (CE.bo (ce_v 7)))
    (css_one (cs_ret (CE.bo (ce_f A_place_in_parted hr (ca_cons (ce_v 6) (ca_cons (ce_v 4) ca_nil))))))
    css_nil)
    (css_one (cs_set nd (ce_op op_subD (CE.bo (ce_v 4)) (CE.bo (ce_v 7)))))))
    (css_one (cs_raiseC hr T.x_NoIndex PS T.n_super (ce_v 4)))))))
    (fun ds hc Q E h => len_parted_at h) (fun ds hc Q E h => pure_parted_at h) (fun _ _ _ _ _ _ us hl => match us, hl with | [_, _, _, _, _], _ => rfl)

abbrev N__law_place_right : List Str := ["_law_one", "_law_other", "_law_low", "_law_high", "_law_index", "_law_x"]
def c__law_place_right : CSx :=
  (cSeq (cAsg (cCall sp_parted_at (cCons (cV 0) (cCons (cV 1) (cCons (cV 2) (cCons (cV 3) (cCons (cV 4) cNil)))))) (gN 5))
    (cSeq (cIfS (cOr (cNot (cT (cCh leD ltD (cV 2) (cV 5) (cV 3)))) (cT (cOp eqD (cCall sp_value_at (cCons (cV 0) (cCons (cV 5) cNil))) (cCall sp_value_at (cCons (cV 1) (cCons (cV 5) cNil))))))
    (cRet (cC (.bl false)))
    cNext)
    (cRet (cAndV (cOp eqD (cCall sp_count_parted (cCons (cV 0) (cCons (cV 1) (cCons (cV 2) (cCons (cV 5) cNil))))) (cV 4)) (cOp eqD (cCall sp_count_parted (cCons (cV 0) (cCons (cV 1) (cCons (cV 2) (cCons (cOp addD (cV 5) (cC (.int 1))) cNil))))) (cOp addD (cV 4) (cC (.int 1))))))))

def sp__law_place_right : Spc := fun ds hc Q _ => ∃ (o t : L3) (lo hi idx : Int), ds = [o.d, t.d, .int lo, .int hi, .int idx] ∧ o.Ok ∧ t.Ok ∧ lo.natAbs < 2 ^ 210 ∧ hi.natAbs < 2 ^ 210 ∧ 0 ≤ idx ∧ idx < cntP (Dif o t) lo (hi - lo).toNat ∧ Q (.bl true) hc
theorem len__law_place_right {ds : List D} {hc : CH} {Q E} (h : sp__law_place_right ds hc Q E) : ds.length = 5 := by
  obtain ⟨o, t, lo, hi, idx, rfl, _⟩ := h
  rfl
theorem pure__law_place_right {ds : List D} {hc : CH} {Q : D → CH → Prop} {E} (h : sp__law_place_right ds hc Q E) : c__law_place_right { nx := fun _ hc' => Q .non hc', rt := Q, xp := fun x _ hc' => E x hc' } (startC N__law_place_right ds) hc := by
  obtain ⟨o, t, lo, hi, idx, rfl, ok, tk, lb, hb, i0, i1, q⟩ := h
  unfold c__law_place_right N__law_place_right
  refine seq_step fun M hM => ?_
  walk_at "n"
  refine ⟨o, t, lo, hi, _, rfl, ok, tk, lb, hb, trivial, fun z => ?_, fun k r ek k0 hr => ?_⟩
  · exfalso
    have y : betw (.int idx) 0 (cntP (Dif o t) lo (hi - lo).toNat - 1) = true := by
      show (decide ((0 : Int) ≤ idx) && decide (idx ≤ cntP (Dif o t) lo (hi - lo).toNat - 1)) = true
      rw [decide_eq_true (by omega), decide_eq_true (by omega)]
      rfl
    rw [y] at z
    cases z
  · cases ek
    obtain ⟨p, r0, r1, c⟩ := filL_at hr
    have c : cntP (Dif o t) lo (r - lo).toNat = idx := by omega
    have c1 : cntP (Dif o t) lo (r + 1 - lo).toNat = idx + 1 := by
      rw [show (r + 1 - lo).toNat = (r - lo).toNat + 1 by omega, cntP_s, show lo + ((r - lo).toNat : Int) = r by omega, if_pos p, c]
    have rh : r < hi := by omega
    have rb : r.natAbs < 2 ^ 210 := by
      clear hr
      omega
    have rb1 : (r + 1).natAbs < 2 ^ 210 := by
      clear hr
      omega
    refine hM _ _ ?_
    clear hM M
    refine seq_step fun M hM => ?_
    walk_at "n"
    rw [decide_eq_true r0, decide_eq_true rh]
    walk_at "n"
    refine ⟨o.a, o.b, o.c, _, rfl, ok.mo rb, ok.dv, ?_⟩
    refine ⟨t.a, t.b, t.c, _, rfl, tk.mo rb, tk.dv, ?_⟩
    walk_at "n"
    rw [decide_eq_false (show ¬ (o.a * r + o.b) / o.c = (t.a * r + t.b) / t.c from p)]
    refine hM _ _ ?_
    clear hM M
    walk_at "n"
    refine ⟨o, t, lo, r, rfl, ok, tk, lb, rb, ?_⟩
    rw [c]
    refine eqD_same 0 rfl ?_
    refine ⟨o, t, lo, _, rfl, ok, tk, lb, rb1, ?_⟩
    rw [c1]
    exact eqD_same 0 rfl q


theorem at__law_place_right (T : Txt K mg) (B : BaseT K mg base) (KX : K.In base) (PS : Sup P mf) (A_parted_at : FnAt P w K mg base 9 "parted_at" ["one", "other", "low", "high", "index"] sp_parted_at) (A_value_at : FnAt P w K mg base 1 "value_at" ["line", "x"] sp_value_at) (A_count_parted : FnAt P w K mg base 7 "count_parted" ["one", "other", "low", "high"] sp_count_parted) : FnAt P w K mg base 10 "_law_place_right" ["_law_one", "_law_other", "_law_low", "_law_high", "_law_index"] sp__law_place_right :=
  fn_at (c := c__law_place_right) T.d__law_place_right sc__law_place_right (fun f cdv A outer s H E hr => by
    have nd := sc__law_place_right.nd
    exact (css_cons (cs_set nd (ce_f A_parted_at hr (ca_cons (ce_v 0) (ca_cons (ce_v 1) (ca_cons (ce_v 2) (ca_cons (ce_v 3) (ca_cons (ce_v 4) ca_nil)))))))
    (css_cons (cs_if (CW.t (cw_or (ct_not (ct_ch op_leD op_ltD (CE.bo (ce_v 2)) (CE.bo (ce_v 5)) (CE.bo (ce_v 3)))) (cw_or1 (ct_cmp (op_eqDD hr.g.units) (CE.bo (ce_f A_value_at hr (ca_cons (ce_v 0) (ca_cons (ce_v 5) ca_nil)))) (CE.bo (ce_f A_value_at hr (ca_cons (ce_v 1) (ca_cons (ce_v 5) ca_nil))))))))
    (css_one (cs_ret (CE.bo ce_b)))
    css_nil)
    (css_one (cs_ret (CE.bo (ce_and (ce_cmp (op_eqDD hr.g.units) (CE.bo (ce_f A_count_parted hr (ca_cons (ce_v 0) (ca_cons (ce_v 1) (ca_cons (ce_v 2) (ca_cons (ce_v 5) ca_nil)))))) (CE.bo (ce_v 4))) (ce_one (ce_cmp (op_eqDD hr.g.units) (CE.bo (ce_f A_count_parted hr (ca_cons (ce_v 0) (ca_cons (ce_v 1) (ca_cons (ce_v 2) (ca_cons (ce_op op_addD (CE.bo (ce_v 5)) (CE.bo ce_i)) ca_nil)))))) (CE.bo (ce_op op_addD (CE.bo (ce_v 4)) (CE.bo ce_i))))))))))))
    (fun ds hc Q E h => len__law_place_right h) (fun ds hc Q E h => pure__law_place_right h) (fun _ _ _ _ _ _ us hl => match us, hl with | [_, _, _, _, _], _ => rfl)

abbrev N_first_parted : List Str := ["one", "other", "low", "high", "part", "many"]
def c_first_parted : CSx :=
  (cSeq (cFor (cIt (cCall sp_counts_of (cCons (cV 0) (cCons (cV 1) (cCons (cV 2) (cCons (cV 3) cNil)))))) (gUn 2 (gCons' (gN 4) (gCons' (gN 5) gNil')))
    (cIfS (cT (cOp gtD (cV 5) (cC (.int 0))))
    (cRet (cCall sp_place_in_parted (cCons (cV 4) (cCons (cC (.int 0)) cNil))))
    cNext))
    (cRet (cC .non)))

def sp_first_parted : Spc := fun ds hc Q _ => ∃ (o t : L3) (lo hi : Int), ds = [o.d, t.d, .int lo, .int hi] ∧ o.Ok ∧ t.Ok ∧ lo.natAbs < 2 ^ 210 ∧ hi.natAbs < 2 ^ 210 ∧ Q (firstD (filL (Dif o t) lo (hi - lo).toNat)) hc
theorem len_first_parted {ds : List D} {hc : CH} {Q E} (h : sp_first_parted ds hc Q E) : ds.length = 4 := by
  obtain ⟨o, t, lo, hi, rfl, _⟩ := h
  rfl
theorem pure_first_parted {ds : List D} {hc : CH} {Q : D → CH → Prop} {E} (h : sp_first_parted ds hc Q E) : c_first_parted { nx := fun _ hc' => Q .non hc', rt := Q, xp := fun x _ hc' => E x hc' } (startC N_first_parted ds) hc := by
  obtain ⟨o, t, lo, hi, rfl, ok, tk, lb, hb, q⟩ := h
  unfold c_first_parted N_first_parted
  refine seq_step fun M hM => ?_
  refine for_step fun R hR => ?_
  walk_at "n"
  refine ⟨o, t, lo, hi, rfl, ok, tk, lb, hb, fun ps h => hR _ _ (fun i sc h' => h' = hc ∧ (∀ k, k < i → ∀ q, ps[k]? = some q → q.due = []) ∧ ∃ x y, sc = [.val o.d, .val t.d, .val (.int lo), .val (.int hi), x, y]) ⟨rfl, fun k hk => absurd hk (by omega), _, _, rfl⟩ (fun j d sc h' Nx e I nx => ?_) (fun sc h' I => ?_)⟩
  · obtain ⟨rfl, em, x, y, rfl⟩ := I
    obtain ⟨p, ej, hp, rfl⟩ := rows_at e
    have l := p.due_len
    refine ⟨rfl, ?_⟩
    walk_at "n"
    refine ite2 (fun z => ?_) (fun z => ?_)
    · have z : 0 < p.many := of_decide_eq_true z
      refine ⟨p, 0, rfl, h.ok p hp, Int.le_refl _, z, fun r hr => ?_⟩
      obtain ⟨w, ew⟩ := due_skip ej em
      rw [← h.due, ew] at q
      cases ed : p.due with
      | nil => rw [ed] at hr; cases hr
      | cons a b =>
        rw [ed] at hr q
        cases hr
        exact q
    · have z : ¬ 0 < p.many := fun w => z (decide_eq_true w)
      refine nx _ _ ⟨rfl, fun k hk q' hq => ?_, _, _, rfl⟩
      by_cases kj : k = j
      · subst kj
        rw [ej] at hq
        cases hq
        exact List.eq_nil_of_length_eq_zero (by omega)
      · exact em k (by omega) q' hq
  · obtain ⟨rfl, em, x, y, rfl⟩ := I
    refine hM _ _ ?_
    walk_at "n"
    rw [← h.due, due_none fun i q' hq => em i (by rw [List.length_map]; exact (List.getElem?_eq_some_iff.mp hq).1) q' hq] at q
    exact q


theorem at_first_parted (T : Txt K mg) (B : BaseT K mg base) (KX : K.In base) (PS : Sup P mf) (A_counts_of : FnAt P w K mg base 6 "counts_of" ["one", "other", "low", "high"] sp_counts_of) (A_place_in_parted : FnAt P w K mg base 8 "place_in_parted" ["part", "index"] sp_place_in_parted) : FnAt P w K mg base 9 "first_parted" ["one", "other", "low", "high"] sp_first_parted :=
  fn_at (c := c_first_parted) T.d_first_parted sc_first_parted (fun f cdv A outer s H E hr => by
    have nd := sc_first_parted.nd
    exact (css_cons (cs_for hr.p rfl (ci_e (ce_f A_counts_of hr (ca_cons (ce_v 0) (ca_cons (ce_v 1) (ca_cons (ce_v 2) (ca_cons (ce_v 3) ca_nil)))))) (cg_u rfl (cgs_cons (cg_n 4 nd) (cgs_cons (cg_n 5 nd) cgs_nil)))
    (css_one (cs_if (ct_cmp op_gtD (CE.bo (ce_v 5)) (CE.bo ce_i))
    (css_one (cs_ret (CE.bo (ce_f A_place_in_parted hr (ca_cons (ce_v 4) (ca_cons ce_i ca_nil))))))
    css_nil)))
    (css_one (cs_ret (CE.bo ce_n)))))
    (fun ds hc Q E h => len_first_parted h) (fun ds hc Q E h => pure_first_parted h) (fun _ _ _ _ _ _ us hl => match us, hl with | [_, _, _, _], _ => rfl)

abbrev N__law_index_fails : List Str := ["_law_call", "_law_index", "error", "_law_is_right"]
def c__law_index_fails (Γ : CloR) : CSx :=
  (cTryAs [("NoIndex", true)]
    (cRet (cOp eqD (cCallV Γ 0 (cCons (cV 1) cNil)) (cC (.str "none")))) 2 (fun a y d =>
    (cSeq (cAsg (cAndV (cIsX [("NoIndex", true)] a y d 2) (cNotV (cIsX [("NoIndex", false)] a y d 2))) (gN 3))
    (cRet (cAndV (cV 3) (cOp eqD (cFn reprD (cCons (cXf ["NoIndex"] a y d 2 "index") cNil)) (cFn reprD (cCons (cV 1) cNil))))))))

def sp__law_index_fails : CloR → Spc := fun Γ ds hc Q _ => ∃ f ws xs φ d, ds = [.clo f ws xs, d] ∧ Γ f ws φ ∧ ShOk d ∧ (∀ R X, X ⟨"NoIndex", [("index", d)]⟩ hc → φ xs [d] hc R X) ∧ Q (.bl true) hc
theorem len__law_index_fails {Γ : CloR} {ds : List D} {hc : CH} {Q E} (h : sp__law_index_fails Γ ds hc Q E) : ds.length = 2 := by
  obtain ⟨f, ws, xs, φ, d, rfl, _⟩ := h
  rfl
theorem pure__law_index_fails {Γ : CloR} {ds : List D} {hc : CH} {Q : D → CH → Prop} {E} (h : sp__law_index_fails Γ ds hc Q E) : c__law_index_fails Γ { nx := fun _ hc' => Q .non hc', rt := Q, xp := fun x _ hc' => E x hc' } (startC N__law_index_fails ds) hc := by
  obtain ⟨f, ws, xs, φ, d, rfl, hΓ, sh, hφ, q⟩ := h
  unfold c__law_index_fails N__law_index_fails
  rw [e_TryAs]
  refine ⟨rfl, ?_⟩
  walk_at "n"
  refine ⟨φ, hΓ, hφ _ _ ?_⟩
  show ∀ (a : Addr) (dx : Option Addr), _
  intro a dx
  refine seq_step fun M2 hM2 => ?_
  walk_at "n"
  rw [show List.lookup (Str.ofString "NoIndex") [(Str.ofString "NoIndex", true)] = some true from rfl, show List.lookup (Str.ofString "NoIndex") [(Str.ofString "NoIndex", false)] = some false from rfl]
  refine hM2 _ _ ?_
  walk_at "n"
  refine ⟨by decide, ?_⟩
  show ShOk d ∧ ShOk d ∧ Q (.bl (decide (shw d = shw d))) hc
  rw [decide_eq_true (Eq.refl (shw d))]
  exact ⟨sh, sh, q⟩


theorem at__law_index_fails (T : Txt K mg) (B : BaseT K mg base) (KX : K.In base) (PS : Sup P mf)  : FnAtH P w K mg base 10 11 "_law_index_fails" ["_law_call", "_law_index"] sp__law_index_fails :=
  fnH_at (c := c__law_index_fails) T.d__law_index_fails sc__law_index_fails (fun Γ f cdv A outer s H E hr hΓ => by
    have nd := sc__law_index_fails.nd
    exact (css_one (cs_try_asC (ct := [("NoIndex", true)]) hr nd T.g_NoIndex (fun C hz => (exm_cons T.e_NoIndex_NoIndex hz exm_nil))
    (fun W1 pn1 xe1 hr => (css_one (cs_ret (CE.bo (ce_cmp (op_eqDD hr.g.units) (CE.bo (ce_callV hΓ hr (ca_cons (ce_v 1) ca_nil))) (CE.bo ce_s))))))
    (fun a oe y cls d pn hy hz hv => (css_cons (cs_set nd (ce_and (ce_isT (tb := [("NoIndex", true)]) (i := 2) T.n_LookupError (isk_cons T.j_NoIndex_LookupError isk_nil) T.n_isinstance hy hz hv) (ce_one (ce_not (ce_isT (tb := [("NoIndex", false)]) (i := 2) T.n_ValueError (isk_cons T.j_NoIndex_ValueError isk_nil) T.n_isinstance hy hz hv)))))
    (css_one (cs_ret (CE.bo (ce_and (ce_v 3) (ce_one (ce_cmp (op_eqDD hr.g.units) (CE.bo (ce_bf (bf_reprS hr.g T.lim) T.n_repr (cba_cons (CE.bo (ce_xf (ys := ["NoIndex"]) (i := 2) (tx_cons T.x_NoIndex tx_nil) hy hz hv)) cba_nil))) (CE.bo (ce_bf (bf_reprS hr.g T.lim) T.n_repr (cba_cons (CE.bo (ce_v 1)) cba_nil))))))))))))))
    (fun Γ ds hc Q E h => len__law_index_fails h) (fun Γ ds hc Q E h => pure__law_index_fails h) (fun _ _ _ _ _ _ us hl => match us, hl with | [_, _], _ => rfl)

abbrev N__law_pair_right : List Str := ["_law_one", "_law_other", "_law_low", "_law_high", "_law_many", "_law_middle", "_law_indexes", "_law_index"]
def c__law_pair_right : CSx :=
  (cSeq (cPar 4 5 (cCons (cCall sp_count_parted (cCons (cV 0) (cCons (cV 1) (cCons (cV 2) (cCons (cV 3) cNil))))) (cCons (cOp fdivD (cOp addD (cV 2) (cV 3)) (cC (.int 2))) cNil)))
    (cSeq (cIfS (cT (cOp neD (cOp addD (cCall sp_count_parted (cCons (cV 0) (cCons (cV 1) (cCons (cV 2) (cCons (cV 5) cNil))))) (cCall sp_count_parted (cCons (cV 1) (cCons (cV 0) (cCons (cV 5) (cCons (cV 3) cNil)))))) (cV 4)))
    (cRet (cC (.bl false)))
    cNext)
    (cSeq (cAsg (cIf (cT (cOp gtD (cV 4) (cC (.int 0)))) (cLst (cCons (cC (.int 0)) (cCons (cOp subD (cV 4) (cC (.int 1))) (cCons (cOp fdivD (cV 4) (cC (.int 2))) cNil)))) (cLst cNil)) (gN 6))
    (cSeq (cIfS (cT (cOp neD (cLc (cIt (cV 6)) (gN 7) (cNot (cT (cCall sp__law_place_right (cCons (cV 0) (cCons (cV 1) (cCons (cV 2) (cCons (cV 3) (cCons (cV 7) cNil)))))))) (cV 7) [7]) (cLst cNil)))
    (cRet (cC (.bl false)))
    cNext)
    (cSeq (cIfS (cT (cOp neD (cCall sp_first_parted (cCons (cV 0) (cCons (cV 1) (cCons (cV 2) (cCons (cV 3) cNil))))) (cIf (cT (cOp gtD (cV 4) (cC (.int 0)))) (cCall sp_parted_at (cCons (cV 0) (cCons (cV 1) (cCons (cV 2) (cCons (cV 3) (cCons (cC (.int 0)) cNil)))))) (cC .non))))
    (cRet (cC (.bl false)))
    cNext)
    (cRet (cLamC sp__law_index_fails [0, 1, 2, 3] 1 (cCall sp_parted_at (cCons (cV 1) (cCons (cV 2) (cCons (cV 3) (cCons (cV 4) (cCons (cV 0) cNil)))))) (cCons (cV 4) cNil))))))))

def sp__law_pair_right : Spc := fun ds hc Q _ => ∃ (o t : L3) (lo hi : Int), ds = [o.d, t.d, .int lo, .int hi] ∧ o.Ok ∧ t.Ok ∧ lo.natAbs < 2 ^ 209 ∧ hi.natAbs < 2 ^ 209 ∧ lo ≤ hi ∧ Q (.bl true) hc
theorem len__law_pair_right {ds : List D} {hc : CH} {Q E} (h : sp__law_pair_right ds hc Q E) : ds.length = 4 := by
  obtain ⟨o, t, lo, hi, rfl, _⟩ := h
  rfl
theorem betw_in {k n : Int} (h0 : 0 ≤ k) (h1 : k < n) : betw (.int k) 0 (n - 1) = true := by
  show (decide ((0 : Int) ≤ k) && decide (k ≤ n - 1)) = true
  rw [decide_eq_true (by omega), decide_eq_true (by omega)]
  rfl
theorem pure__law_pair_right {ds : List D} {hc : CH} {Q : D → CH → Prop} {E} (h : sp__law_pair_right ds hc Q E) : c__law_pair_right { nx := fun _ hc' => Q .non hc', rt := Q, xp := fun x _ hc' => E x hc' } (startC N__law_pair_right ds) hc := by
  obtain ⟨o, t, lo, hi, rfl, ok, tk, lb, hb, lh, q⟩ := h
  have lb := up_pow 210 lb
  have hb := up_pow 210 hb
  have nn := cntP_nn (P := Dif o t) (lo := lo) (hi - lo).toNat
  have len := filL_len (P := Dif o t) (lo := lo) (hi - lo).toNat
  have nb : cntP (Dif o t) lo (hi - lo).toNat ≤ hi - lo := by
    have := filL_le (P := Dif o t) (lo := lo) (hi - lo).toNat
    omega
  have half : ∀ m : Int, lo ≤ m → m ≤ hi → cntP (Dif o t) lo (m - lo).toNat + cntP (Dif t o) m (hi - m).toNat = cntP (Dif o t) lo (hi - lo).toNat := fun m m0 m1 => by
    rw [← cnt_cat m0 m1]
    congr 1
    exact cntP_congr fun x => dif_comm
  unfold c__law_pair_right N__law_pair_right
  refine seq_step fun M hM => ?_
  walk_at "n"
  refine ⟨o, t, lo, hi, rfl, ok, tk, lb, hb, ?_⟩
  refine ⟨divOk 2 (by decide) (by decide) (by decide), hM _ _ ?_⟩
  clear hM M
  have m0 : lo ≤ (lo + hi) / 2 := by omega
  have m1 : (lo + hi) / 2 ≤ hi := by omega
  have mb : ((lo + hi) / 2).natAbs < 2 ^ 210 := by
    revert lb hb m0 m1
    generalize (2 : Nat) ^ 210 = B
    intros
    omega
  revert m0 m1 mb
  generalize (lo + hi) / 2 = m
  intro m0 m1 mb
  have half := half m m0 m1
  obtain ⟨n, en⟩ : ∃ n, n = cntP (Dif o t) lo (hi - lo).toNat := ⟨_, rfl⟩
  rw [← en] at half nn len nb ⊢
  refine seq_step fun M hM => ?_
  walk_at "n"
  refine ⟨o, t, lo, m, rfl, ok, tk, lb, mb, ?_⟩
  refine ⟨t, o, m, hi, rfl, tk, ok, mb, hb, ?_⟩
  walk_at "n"
  rw [decide_eq_true half]
  walk_at "n"
  refine hM _ _ ?_
  clear hM M half
  refine seq_step fun M hM => ?_
  suffices rest : ∀ ks : List Int, (∀ k ∈ ks, 0 ≤ k ∧ k < n) → ks.length ≤ 3 → M [.val o.d, .val t.d, .val (.int lo), .val (.int hi), .val (.int n), .val (.int m), .val (.lst (ks.map D.int)), .un] hc by
    walk_at "n"
    refine ite2 (fun z => ?_) (fun z => ?_)
    · have z : 0 < n := of_decide_eq_true z
      walk_at "n"
      refine ⟨divOk 2 (by decide) (by decide) (by decide), by decide, rest [0, n - 1, n / 2] (fun k hk => ?_) (Nat.le_refl 3)⟩
      simp only [List.mem_cons, List.not_mem_nil, or_false] at hk
      rcases hk with rfl | rfl | rfl <;> omega
    · walk_at "n"
      exact ⟨by decide, rest [] (fun k hk => nomatch hk) (by decide)⟩
  intro ks hks kl
  refine hM _ _ ?_
  clear hM M
  refine seq_step fun M hM => ?_
  walk_at "n"
  refine lc_inv fun R hR => ?_
  walk_at "n"
  refine hR _ _ (fun i acc h' => h' = hc ∧ acc = []) (by rw [List.length_map, sizeLine_eq]; omega) ⟨rfl, rfl⟩ (fun j d acc h' Nx e I nx => ?_) (fun acc h' I => ?_)
  · obtain ⟨rfl, rfl⟩ := I
    obtain ⟨k, hk, rfl⟩ := List.mem_map.mp (List.mem_of_getElem? e)
    obtain ⟨k0, k1⟩ := hks k hk
    walk_at "n"
    refine ⟨o, t, lo, hi, k, rfl, ok, tk, lb, hb, k0, by rw [← en]; exact k1, ?_⟩
    walk_at "n"
    exact nx _ _ ⟨rfl, rfl⟩
  · obtain ⟨rfl, rfl⟩ := I
    walk_at "n"
    refine ⟨by decide, neD_ok 1 1 rfl rfl (fun _ => ?_) (fun z => absurd rfl z)⟩
    walk_at "n"
    refine hM _ _ ?_
    clear hM M hR R hks kl
    refine seq_step fun M hM => ?_
    walk_at "n"
    refine ⟨o, t, lo, hi, rfl, ok, tk, lb, hb, ?_⟩
    obtain ⟨F, ef⟩ : ∃ F, F = filL (Dif o t) lo (hi - lo).toNat := ⟨_, rfl⟩
    rw [← ef] at len ⊢
    suffices rest : M [.val o.d, .val t.d, .val (.int lo), .val (.int hi), .val (.int n), .val (.int m), .val (.lst (ks.map D.int)), .un] h' by
      refine ite2 (fun z => ?_) (fun z => ?_)
      · have z : 0 < n := of_decide_eq_true z
        refine ⟨o, t, lo, hi, _, rfl, ok, tk, lb, hb, trivial, fun y => ?_, fun k r ek k0 hr => ?_⟩
        · rw [← en, betw_in (Int.le_refl _) z] at y
          cases y
        · cases ek
          rw [← ef] at hr
          have e1 : firstD F = .int r := by
            cases F with
            | nil => cases hr
            | cons x w => cases hr; rfl
          show neD (firstD F) (.int r) _ _
          rw [e1]
          refine neD_ok 0 0 rfl rfl (fun _ => ?_) (fun z => absurd rfl z)
          walk_at "n"
          exact rest
      · have z : ¬ 0 < n := fun y => z (decide_eq_true y)
        have e1 : F = [] := List.eq_nil_of_length_eq_zero (by omega)
        subst e1
        exact rest
    refine hM _ _ ?_
    clear hM M
    walk_at "n"
    refine ⟨_, rfl, ?_⟩
    intro f ws
    refine ⟨f, ws, _, _, .int n, rfl, ⟨rfl, rfl, rfl⟩, ?_, fun R X hX => ?_, q⟩
    · refine (sh_i (up_pow 1920 (k := 211) ?_)).ok
      revert lb hb nb nn
      have e : (2 : Nat) ^ 211 = 2 * 2 ^ 210 := by decide
      rw [e]
      generalize (2 : Nat) ^ 210 = B
      intros
      omega
    · refine ⟨rfl, ?_⟩
      walk_at "n"
      refine ⟨o, t, lo, hi, _, rfl, ok, tk, lb, hb, trivial, fun _ => hX, fun k r ek k0 hr => ?_⟩
      exfalso
      cases ek
      have := (List.getElem?_eq_some_iff.mp hr).1
      rw [← ef] at this
      omega


theorem at__law_pair_right (T : Txt K mg) (B : BaseT K mg base) (KX : K.In base) (PS : Sup P mf) (A_count_parted : FnAt P w K mg base 7 "count_parted" ["one", "other", "low", "high"] sp_count_parted) (A__law_place_right : FnAt P w K mg base 10 "_law_place_right" ["_law_one", "_law_other", "_law_low", "_law_high", "_law_index"] sp__law_place_right) (A_first_parted : FnAt P w K mg base 9 "first_parted" ["one", "other", "low", "high"] sp_first_parted) (A_parted_at : FnAt P w K mg base 9 "parted_at" ["one", "other", "low", "high", "index"] sp_parted_at) (A__law_index_fails : FnAtH P w K mg base 10 11 "_law_index_fails" ["_law_call", "_law_index"] sp__law_index_fails) : FnAt P w K mg base 12 "_law_pair_right" ["_law_one", "_law_other", "_law_low", "_law_high"] sp__law_pair_right :=
  fnL_at (c := c__law_pair_right) T.d__law_pair_right T.l__law_pair_right B KX sc__law_pair_right (fun f cdv A outer s H E hr kn => by
    have nd := sc__law_pair_right.nd
    obtain ⟨cc, Pt, rfl, hmt, TB⟩ := kn
    exact (css_cons (cs_par rfl nd (ca_cons (ce_f A_count_parted hr (ca_cons (ce_v 0) (ca_cons (ce_v 1) (ca_cons (ce_v 2) (ca_cons (ce_v 3) ca_nil))))) (ca_cons (ce_op op_fdivD (CE.bo (ce_op op_addD (CE.bo (ce_v 2)) (CE.bo (ce_v 3)))) (CE.bo ce_i)) ca_nil)))
    (css_cons (cs_if (ct_cmp (op_neDD hr.g.units) (CE.bo (ce_op op_addD (CE.bo (ce_f A_count_parted hr (ca_cons (ce_v 0) (ca_cons (ce_v 1) (ca_cons (ce_v 2) (ca_cons (ce_v 5) ca_nil)))))) (CE.bo (ce_f A_count_parted hr (ca_cons (ce_v 1) (ca_cons (ce_v 0) (ca_cons (ce_v 5) (ca_cons (ce_v 3) ca_nil)))))))) (CE.bo (ce_v 4)))
    (css_one (cs_ret (CE.bo ce_b)))
    css_nil)
    (css_cons (cs_set nd (ce_if (ct_cmp op_gtD (CE.bo (ce_v 4)) (CE.bo ce_i)) (ce_lst (ca_cons ce_i (ca_cons (ce_op op_subD (CE.bo (ce_v 4)) (CE.bo ce_i)) (ca_cons (ce_op op_fdivD (CE.bo (ce_v 4)) (CE.bo ce_i)) ca_nil)))) (ce_lst ca_nil)))
    (css_cons (cs_if (ct_cmp (op_neDD hr.g.units) (CE.bo (ce_lc rfl nd (own := [("_law_index", 7)]) (ci_e (ce_v 6)) (blkOk_by (N := ["_law_one", "_law_other", "_law_low", "_law_high", "_law_many", "_law_middle", "_law_indexes", "_law_index"]) (sc := defScope s__law_pair_right) (own := [("_law_index", 7)]) (by decide +kernel)) (fun _ _ _ _ _ => (cgk_n 7 nd)) (fun _ _ _ _ _ => (cts_one (ct_not (ct_e (ce_f A__law_place_right hr.b (ca_cons (ce_v 0) (ca_cons (ce_v 1) (ca_cons (ce_v 2) (ca_cons (ce_v 3) (ca_cons (ce_v 7) ca_nil)))))))))) (fun _ _ _ _ _ => (ce_v 7)))) (CE.bo (ce_lst ca_nil)))
    (css_one (cs_ret (CE.bo ce_b)))
    css_nil)
    (css_cons (cs_if (ct_cmp (op_neDD hr.g.units) (CE.bo (ce_f A_first_parted hr (ca_cons (ce_v 0) (ca_cons (ce_v 1) (ca_cons (ce_v 2) (ca_cons (ce_v 3) ca_nil)))))) (CE.bo (ce_if (ct_cmp op_gtD (CE.bo (ce_v 4)) (CE.bo ce_i)) (ce_f A_parted_at hr (ca_cons (ce_v 0) (ca_cons (ce_v 1) (ca_cons (ce_v 2) (ca_cons (ce_v 3) (ca_cons ce_i ca_nil)))))) ce_n)))
    (css_one (cs_ret (CE.bo ce_b)))
    css_nil)
    (css_one (cs_ret (CE.bo (ce_lamc (sc0 := defScope s__law_pair_right) (N := ["_law_wrong", "_law_one", "_law_other", "_law_low", "_law_high"]) (ps := ["_law_wrong"]) (fr := ["_law_one", "_law_other", "_law_low", "_law_high"]) (js := [0, 1, 2, 3]) (kb := 9) A__law_index_fails hr TB rfl hmt T.tnd (NdefX.nscope_by (by decide +kernel)) (fun q cl c1 f1 A1 outer1 s1 H1 E1 hr => (ce_f A_parted_at hr (ca_cons (ce_v 1) (ca_cons (ce_v 2) (ca_cons (ce_v 3) (ca_cons (ce_v 4) (ca_cons (ce_v 0) ca_nil))))))) (ca_cons (ce_v 4) ca_nil) (fun _ _ _ _ _ us hl => match us, hl with | [_], _ => rfl)))))))))))
    (fun ds hc Q E h => len__law_pair_right h) (fun ds hc Q E h => pure__law_pair_right h) (fun _ _ _ _ _ _ us hl => match us, hl with | [_, _, _, _], _ => rfl)

abbrev N_lines_of : List Str := ["line", "window", "a", "b", "c", "least", "greatest"]
def c_lines_of : CSx :=
  (cSeq (cAsg (cV 0) (gUn 3 (gCons' (gN 2) (gCons' (gN 3) (gCons' (gN 4) gNil')))))
    (cSeq (cAsg (cV 1) (gUn 2 (gCons' (gN 5) (gCons' (gN 6) gNil'))))
    (cRet (cTup (cCons (cTup (cCons (cV 2) (cCons (cOp subD (cV 3) (cV 5)) (cCons (cV 4) cNil)))) (cCons (cTup (cCons (cV 2) (cCons (cOp subD (cOp subD (cOp subD (cV 3) (cV 5)) (cOp modD (cOp subD (cV 6) (cV 5)) (cV 4))) (cC (.int 1))) (cCons (cV 4) cNil)))) cNil))))))

def sp_lines_of : Spc := fun ds hc Q _ => ∃ a b c l g, ds = [.tup [.int a, .int b, .int c], .tup [.int l, .int g]] ∧ 0 < c ∧ Q (.tup [.tup [.int a, .int (b - l), .int c], .tup [.int a, .int (b - l - (g - l) % c - 1), .int c]]) hc
theorem len_lines_of {ds : List D} {hc : CH} {Q E} (h : sp_lines_of ds hc Q E) : ds.length = 2 := by
  obtain ⟨a, b, c, l, g, rfl, _⟩ := h
  rfl
theorem pure_lines_of {ds : List D} {hc : CH} {Q : D → CH → Prop} {E} (h : sp_lines_of ds hc Q E) : c_lines_of { nx := fun _ hc' => Q .non hc', rt := Q, xp := fun x _ hc' => E x hc' } (startC N_lines_of ds) hc := by
  obtain ⟨a, b, c, l, g, rfl, c0, q⟩ := h
  unfold c_lines_of N_lines_of
  refine seq_step fun M hM => ?_
  walk_at "n"
  refine hM _ _ ?_
  refine seq_step fun M hM => ?_
  walk_at "n"
  refine hM _ _ ?_
  walk_at "n"
  exact ⟨by decide, c0, by decide, by decide, q⟩


theorem at_lines_of (T : Txt K mg) (B : BaseT K mg base) (KX : K.In base) (PS : Sup P mf)  : FnAt P w K mg base 1 "lines_of" ["line", "window"] sp_lines_of :=
  fn_at (c := c_lines_of) T.d_lines_of sc_lines_of (fun f cdv A outer s H E hr => by
    have nd := sc_lines_of.nd
    exact (css_cons (cs_asg (ce_v 0) (cg_u rfl (cgs_cons (cg_n 2 nd) (cgs_cons (cg_n 3 nd) (cgs_cons (cg_n 4 nd) cgs_nil)))))
    (css_cons (cs_asg (ce_v 1) (cg_u rfl (cgs_cons (cg_n 5 nd) (cgs_cons (cg_n 6 nd) cgs_nil))))
    (css_one (cs_ret (CE.bo (ce_tup (ca_cons (ce_tup (ca_cons (ce_v 2) (ca_cons (ce_op op_subD (CE.bo (ce_v 3)) (CE.bo (ce_v 5))) (ca_cons (ce_v 4) ca_nil)))) (ca_cons (ce_tup (ca_cons (ce_v 2) (ca_cons (ce_op op_subD (CE.bo (ce_op op_subD (CE.bo (ce_op op_subD (CE.bo (ce_v 3)) (CE.bo (ce_v 5)))) (CE.bo (ce_op op_modD (CE.bo (ce_op op_subD (CE.bo (ce_v 6)) (CE.bo (ce_v 5)))) (CE.bo (ce_v 4)))))) (CE.bo ce_i)) (ca_cons (ce_v 4) ca_nil)))) ca_nil)))))))))
    (fun ds hc Q E h => len_lines_of h) (fun ds hc Q E h => pure_lines_of h) (fun _ _ _ _ _ _ us hl => match us, hl with | [_, _], _ => rfl)

abbrev N_count_hits : List Str := ["line", "window", "low", "high", "upper", "lower"]
def c_count_hits : CSx :=
  (cSeq (cAsg (cCall sp_lines_of (cCons (cV 0) (cCons (cV 1) cNil))) (gUn 2 (gCons' (gN 4) (gCons' (gN 5) gNil'))))
    (cRet (cOp subD (cCall sp_sum_of (cCons (cV 4) (cCons (cV 2) (cCons (cV 3) cNil)))) (cCall sp_sum_of (cCons (cV 5) (cCons (cV 2) (cCons (cV 3) cNil)))))))

def sp_count_hits : Spc := fun ds hc Q _ => ∃ a b c l g lo hi, ds = [.tup [.int a, .int b, .int c], .tup [.int l, .int g], .int lo, .int hi] ∧ HitOk a b c l g lo hi ∧ Q (.int (hitN a b c l g lo hi)) hc
theorem len_count_hits {ds : List D} {hc : CH} {Q E} (h : sp_count_hits ds hc Q E) : ds.length = 4 := by
  obtain ⟨a, b, c, l, g, lo, hi, rfl, _⟩ := h
  rfl
theorem pure_count_hits {ds : List D} {hc : CH} {Q : D → CH → Prop} {E} (h : sp_count_hits ds hc Q E) : c_count_hits { nx := fun _ hc' => Q .non hc', rt := Q, xp := fun x _ hc' => E x hc' } (startC N_count_hits ds) hc := by
  obtain ⟨a, b, c, l, g, lo, hi, rfl, ok, q⟩ := h
  unfold c_count_hits N_count_hits
  refine seq_step fun M hM => ?_
  walk_at "n"
  refine ⟨a, b, c, l, g, rfl, ok.c0, ?_⟩
  walk_at "n"
  refine hM _ _ ?_
  walk_at "n"
  refine ⟨a, b - l, c, lo, hi, rfl, ok.mo, ok.b1, ?_⟩
  refine ⟨a, b - l - (g - l) % c - 1, c, lo, hi, rfl, ok.mo, ok.b2, ?_⟩
  walk_at "n"
  rw [hits_sum ok.c0]
  exact q


theorem at_count_hits (T : Txt K mg) (B : BaseT K mg base) (KX : K.In base) (PS : Sup P mf) (A_lines_of : FnAt P w K mg base 1 "lines_of" ["line", "window"] sp_lines_of) (A_sum_of : FnAt P w K mg base 4 "sum_of" ["line", "low", "high"] sp_sum_of) : FnAt P w K mg base 5 "count_hits" ["line", "window", "low", "high"] sp_count_hits :=
  fn_at (c := c_count_hits) T.d_count_hits sc_count_hits (fun f cdv A outer s H E hr => by
    have nd := sc_count_hits.nd
    exact (css_cons (cs_asg (ce_f A_lines_of hr (ca_cons (ce_v 0) (ca_cons (ce_v 1) ca_nil))) (cg_u rfl (cgs_cons (cg_n 4 nd) (cgs_cons (cg_n 5 nd) cgs_nil))))
    (css_one (cs_ret (CE.bo (ce_op op_subD (CE.bo (ce_f A_sum_of hr (ca_cons (ce_v 4) (ca_cons (ce_v 2) (ca_cons (ce_v 3) ca_nil))))) (CE.bo (ce_f A_sum_of hr (ca_cons (ce_v 5) (ca_cons (ce_v 2) (ca_cons (ce_v 3) ca_nil)))))))))))
    (fun ds hc Q E h => len_count_hits h) (fun ds hc Q E h => pure_count_hits h) (fun _ _ _ _ _ _ us hl => match us, hl with | [_, _, _, _], _ => rfl)

abbrev N_place_in_hits : List Str := ["line", "window", "low", "high", "index"]
def c_place_in_hits : CSx :=
  (cRet (cLamC sp_place_of [0, 1, 2] 1 (cCall sp_count_hits (cCons (cV 1) (cCons (cV 2) (cCons (cV 3) (cCons (cV 0) cNil))))) (cCons (cV 2) (cCons (cV 3) (cCons (cV 4) cNil)))))

def sp_place_in_hits : Spc := fun ds hc Q _ => ∃ a b c l g lo hi idx, ds = [.tup [.int a, .int b, .int c], .tup [.int l, .int g], .int lo, .int hi, .int idx] ∧ HitOk a b c l g lo hi ∧ ∀ r, Halved (hitN a b c l g lo) lo hi idx r → Q (.int r) hc
theorem len_place_in_hits {ds : List D} {hc : CH} {Q E} (h : sp_place_in_hits ds hc Q E) : ds.length = 5 := by
  obtain ⟨a, b, c, l, g, lo, hi, idx, rfl, _⟩ := h
  rfl
theorem pure_place_in_hits {ds : List D} {hc : CH} {Q : D → CH → Prop} {E} (h : sp_place_in_hits ds hc Q E) : c_place_in_hits { nx := fun _ hc' => Q .non hc', rt := Q, xp := fun x _ hc' => E x hc' } (startC N_place_in_hits ds) hc := by
  obtain ⟨a, b, c, l, g, lo, hi, idx, rfl, ok, q⟩ := h
  unfold c_place_in_hits N_place_in_hits
  walk_at "n"
  refine ⟨_, rfl, fun f ws => ?_⟩
  refine ⟨f, ws, _, _, lo, hi, idx, hitN a b c l g lo, rfl, ⟨rfl, rfl, rfl⟩, fun x R x0 x1 k => ?_, q⟩
  refine ⟨rfl, ?_⟩
  walk_at "n"
  exact ⟨a, b, c, l, g, lo, x, rfl, ok.to (by omega), k⟩


theorem at_place_in_hits (T : Txt K mg) (B : BaseT K mg base) (KX : K.In base) (PS : Sup P mf) (A_count_hits : FnAt P w K mg base 5 "count_hits" ["line", "window", "low", "high"] sp_count_hits) (A_place_of : FnAtH P w K mg base 6 7 "place_of" ["count", "low", "high", "index"] sp_place_of) : FnAt P w K mg base 8 "place_in_hits" ["line", "window", "low", "high", "index"] sp_place_in_hits :=
  fnL_atA (c := c_place_in_hits) T.d_place_in_hits T.l_place_in_hits B KX sc_place_in_hits (fun f cdv A outer s H E hr kn => by
    have nd := sc_place_in_hits.nd
    obtain ⟨cc, Pt, rfl, hmt, TB⟩ := kn
    exact (css_one (cs_ret (CE.bo (ce_lamc (sc0 := defScope s_place_in_hits) (N := ["end", "line", "window", "low"]) (ps := ["end"]) (fr := ["line", "window", "low"]) (js := [0, 1, 2]) (kb := 5) A_place_of hr TB rfl hmt T.tnd (NdefX.nscope_by (by decide +kernel)) (fun q cl c1 f1 A1 outer1 s1 H1 E1 hr => (ce_f A_count_hits hr (ca_cons (ce_v 1) (ca_cons (ce_v 2) (ca_cons (ce_v 3) (ca_cons (ce_v 0) ca_nil)))))) (ca_cons (ce_v 2) (ca_cons (ce_v 3) (ca_cons (ce_v 4) ca_nil))) (fun _ _ _ _ _ us hl => match us, hl with | [_], _ => rfl))))))
    (fun ds hc Q E h => len_place_in_hits h) (fun ds hc Q E h => pure_place_in_hits h) (fun _ _ _ _ _ _ us hl => match us, hl with | [_, _, _, _, _], _ => rfl)

abbrev N_first_hit : List Str := ["line", "window", "low", "high"]
def c_first_hit : CSx :=
  (cRet (cIf (cT (cOp gtD (cCall sp_count_hits (cCons (cV 0) (cCons (cV 1) (cCons (cV 2) (cCons (cV 3) cNil))))) (cC (.int 0)))) (cCall sp_place_in_hits (cCons (cV 0) (cCons (cV 1) (cCons (cV 2) (cCons (cV 3) (cCons (cC (.int 0)) cNil)))))) (cC .non)))

def sp_first_hit : Spc := fun ds hc Q _ => ∃ a b c l g lo hi res, ds = [.tup [.int a, .int b, .int c], .tup [.int l, .int g], .int lo, .int hi] ∧ HitOk a b c l g lo hi ∧ FirstD (HitP a b c l g) lo hi res ∧ Q res hc
theorem len_first_hit {ds : List D} {hc : CH} {Q E} (h : sp_first_hit ds hc Q E) : ds.length = 4 := by
  obtain ⟨a, b, c, l, g, lo, hi, res, rfl, _⟩ := h
  rfl
theorem pure_first_hit {ds : List D} {hc : CH} {Q : D → CH → Prop} {E} (h : sp_first_hit ds hc Q E) : c_first_hit { nx := fun _ hc' => Q .non hc', rt := Q, xp := fun x _ hc' => E x hc' } (startC N_first_hit ds) hc := by
  obtain ⟨a, b, c, l, g, lo, hi, res, rfl, ok, hf, q⟩ := h
  unfold c_first_hit N_first_hit
  walk_at "n"
  refine ⟨a, b, c, l, g, lo, hi, rfl, ok, ?_⟩
  walk_at "n"
  have nn : 0 ≤ hitN a b c l g lo hi := cntP_nn _
  rcases hf with ⟨no, rfl⟩ | ⟨r, r0, r1, pr, least, rfl⟩
  · have z : hitN a b c l g lo hi = 0 := (cntP_zero _).mpr fun k hk => no _ (by omega) (by omega)
    rw [z, if_neg (by decide)]
    exact q
  · have pos : 0 < hitN a b c l g lo hi := by
      have z : hitN a b c l g lo hi ≠ 0 := fun z => by
        have := (cntP_zero _).mp z (r - lo).toNat (by omega)
        rw [show lo + ((r - lo).toNat : Int) = r by omega] at this
        exact this pr
      omega
    rw [if_pos (decide_eq_true pos)]
    refine ⟨a, b, c, l, g, lo, hi, 0, rfl, ok, fun r' hr => ?_⟩
    obtain ⟨s0, s1, s2, s3⟩ := first_of hr pos
    have e : r' = r := by
      rcases Int.lt_trichotomy r' r with z | z | z
      · exact absurd s2 (least _ s0 z)
      · exact z
      · exact absurd pr (s3 _ r0 z)
    rw [e]
    exact q


theorem at_first_hit (T : Txt K mg) (B : BaseT K mg base) (KX : K.In base) (PS : Sup P mf) (A_count_hits : FnAt P w K mg base 5 "count_hits" ["line", "window", "low", "high"] sp_count_hits) (A_place_in_hits : FnAt P w K mg base 8 "place_in_hits" ["line", "window", "low", "high", "index"] sp_place_in_hits) : FnAt P w K mg base 9 "first_hit" ["line", "window", "low", "high"] sp_first_hit :=
  fn_at (c := c_first_hit) T.d_first_hit sc_first_hit (fun f cdv A outer s H E hr => by
    have nd := sc_first_hit.nd
    exact (css_one (cs_ret (CE.bo (ce_if (ct_cmp op_gtD (CE.bo (ce_f A_count_hits hr (ca_cons (ce_v 0) (ca_cons (ce_v 1) (ca_cons (ce_v 2) (ca_cons (ce_v 3) ca_nil)))))) (CE.bo ce_i)) (ce_f A_place_in_hits hr (ca_cons (ce_v 0) (ca_cons (ce_v 1) (ca_cons (ce_v 2) (ca_cons (ce_v 3) (ca_cons ce_i ca_nil)))))) ce_n)))))
    (fun ds hc Q E h => len_first_hit h) (fun ds hc Q E h => pure_first_hit h) (fun _ _ _ _ _ _ us hl => match us, hl with | [_, _, _, _], _ => rfl)

abbrev N__law_near_right : List Str := ["_law_deck_here", "_law_line_here", "_law_low", "_law_high", "_law_a", "_law_b", "_law_c", "_law_more", "_law_window", "_law_other", "_law_times"]
def c__law_near_right : CSx :=
  (cSeq (cAsg (cV 1) (gUn 3 (gCons' (gN 4) (gCons' (gN 5) (gCons' (gN 6) gNil')))))
    (cSeq (cAsg (cOp addD (cC (.int 1)) (cCall sp__law_draw (cCons (cV 0) (cCons (cFn minD2 (cCons (cV 6) (cCons (cC (.int 9)) cNil))) cNil)))) (gN 7))
    (cSeq (cIfS (cT (cOp ltD (cV 7) (cV 6)))
    (cSeq (cAsg (cTup (cCons (cOp subD (cV 6) (cV 7)) (cCons (cOp subD (cV 6) (cC (.int 1))) cNil))) (gN 8))
    (cSeq (cAsg (cTup (cCons (cV 4) (cCons (cOp addD (cV 5) (cV 7)) (cCons (cV 6) cNil)))) (gN 9))
    (cSeq (cIfS (cT (cOp neD (cCall sp_count_parted (cCons (cV 1) (cCons (cV 9) (cCons (cV 2) (cCons (cV 3) cNil))))) (cCall sp_count_hits (cCons (cV 1) (cCons (cV 8) (cCons (cV 2) (cCons (cV 3) cNil)))))))
    (cRet (cC (.bl false)))
    cNext)
    (cIfS (cT (cOp neD (cCall sp_first_parted (cCons (cV 1) (cCons (cV 9) (cCons (cV 2) (cCons (cV 3) cNil))))) (cCall sp_first_hit (cCons (cV 1) (cCons (cV 8) (cCons (cV 2) (cCons (cV 3) cNil)))))))
    (cRet (cC (.bl false)))
    cNext))))
    cNext)
    (cSeq (cAsg (cOp addD (cC (.int 2)) (cCall sp__law_draw (cCons (cV 0) (cCons (cC (.int 5)) cNil)))) (gN 10))
    (cSeq (cIfS (cT (cOp notND (cCall sp_first_parted (cCons (cV 1) (cCons (cTup (cCons (cOp mulD (cV 10) (cV 4)) (cCons (cOp mulD (cV 10) (cV 5)) (cCons (cOp mulD (cV 10) (cV 6)) cNil)))) (cCons (cV 2) (cCons (cV 3) cNil))))) (cC .non)))
    (cRet (cC (.bl false)))
    cNext)
    (cRet (cOp eqD (cCall sp_count_parted (cCons (cV 1) (cCons (cTup (cCons (cV 4) (cCons (cOp addD (cOp addD (cV 5) (cV 6)) (cCall sp__law_draw (cCons (cV 0) (cCons (cC (.int 3)) cNil)))) (cCons (cV 6) cNil)))) (cCons (cV 2) (cCons (cV 3) cNil))))) (cOp subD (cV 3) (cV 2)))))))))

def sp__law_near_right : Spc := fun ds hc Q _ => ∃ b r q N, ∃ (o : L3) (lo hi : Int), ds = [.ref r, o.d, .int lo, .int hi] ∧ Dk b r q N hc ∧ N < 790000 ∧ o.Sm ∧ lo.natAbs < 2 ^ 209 ∧ hi.natAbs < 2 ^ 209 ∧ lo ≤ hi ∧ ∀ hc', Dk b r q (N + 10) hc' → Q (.bl true) hc'
theorem len__law_near_right {ds : List D} {hc : CH} {Q E} (h : sp__law_near_right ds hc Q E) : ds.length = 4 := by
  obtain ⟨b, r, q, N, o, lo, hi, rfl, _⟩ := h
  rfl
/-- the moved line differs where the window is hit -/
theorem dif_hit {a x c m : Int} (c0 : 0 < c) (m0 : 0 < m) (mc : m < c) (y : Int) : Dif ⟨a, x, c⟩ ⟨a, x + m, c⟩ y ↔ HitP a x c (c - m) (c - 1) y := by
  have h := hit_one (c := c) (w := m - 1) (y := a * y + (x + m)) c0 (by omega) (by omega)
  have e1 : (a * y + (x + m) - (m - 1) - 1) = a * y + x := by omega
  rw [e1] at h
  have e2 : (a * y + x - (c - m)) % c = (a * y + (x + m)) % c := by
    rw [show a * y + x - (c - m) = a * y + (x + m) + c * (-1) by omega, Int.add_mul_emod_self_left]
  have e3 : (c - 1 - (c - m)) % c = m - 1 := by
    rw [show c - 1 - (c - m) = m - 1 by omega]
    exact Int.emod_eq_of_lt (by omega) (by omega)
  unfold HitP
  rw [e2, e3]
  show (a * y + x) / c ≠ (a * y + (x + m)) / c ↔ _
  by_cases z : (a * y + (x + m)) % c ≤ m - 1
  · rw [if_pos z] at h
    exact ⟨fun _ => z, fun _ => by omega⟩
  · rw [if_neg z] at h
    exact ⟨fun y => absurd (by omega) y, fun y => absurd y z⟩
/-- the same line, told otherwise -/
theorem dif_times {a x c k : Int} (c0 : 0 < c) (k0 : 0 < k) (y : Int) : ¬ Dif ⟨a, x, c⟩ ⟨k * a, k * x, k * c⟩ y := by
  intro h
  refine h ?_
  show (a * y + x) / c = (k * a * y + k * x) / (k * c)
  rw [Int.mul_assoc, ← Int.mul_add, Int.mul_ediv_mul_of_pos _ _ k0]
/-- a line one higher -/
theorem dif_up {a x c j : Int} (c0 : 0 < c) (j0 : 0 ≤ j) (y : Int) : Dif ⟨a, x, c⟩ ⟨a, x + c + j, c⟩ y := by
  show (a * y + x) / c ≠ (a * y + (x + c + j)) / c
  have h := fl_up (u := a * y + x) c0
  have l := Int.ediv_le_ediv c0 (show a * y + x + c ≤ a * y + (x + c + j) by omega)
  omega
theorem cnt_all {P : Int → Prop} {lo : Int} (h : ∀ x, P x) : ∀ n : Nat, cntP P lo n = n
  | 0 => rfl
  | n + 1 => by
    rw [cntP_s, cnt_all h n, if_pos (h _)]
    omega
theorem hitOk_of {o : L3} (h : o.Sm) {m lo hi : Int} (m0 : 0 < m) (mc : m < o.c) (lb : lo.natAbs < 2 ^ 210) (hb : hi.natAbs < 2 ^ 210) : HitOk o.a o.b o.c (o.c - m) (o.c - 1) lo hi := by
  have mb : m.natAbs < 2 ^ 1000 := by
    have := h.cb
    omega
  have b1 : (o.b - (o.c - m)).natAbs < 2 ^ 1310 := sub_pow (k := 1309) (up_pow 1309 h.bb) (up_pow 1309 (sub_pow h.cb mb))
  refine ⟨h.c0, h.ok.mo lb, L3.Ok.bd (l := ⟨o.a, o.b - (o.c - m), o.c⟩) ⟨h.c0, up_pow 1010 h.cb, up_pow 1310 h.ab, b1⟩ lb hb, L3.Ok.bd (l := ⟨o.a, o.b - (o.c - m) - (o.c - 1 - (o.c - m)) % o.c - 1, o.c⟩) ⟨h.c0, up_pow 1010 h.cb, up_pow 1310 h.ab, ?_⟩ lb hb⟩
  have e3 : (o.c - 1 - (o.c - m)) % o.c = m - 1 := by
    rw [show o.c - 1 - (o.c - m) = m - 1 by omega]
    exact Int.emod_eq_of_lt (by omega) (by omega)
  rw [e3]
  show (o.b - (o.c - m) - (m - 1) - 1).natAbs < 2 ^ 1310
  rw [show o.b - (o.c - m) - (m - 1) - 1 = o.b - o.c by omega]
  exact sub_pow (k := 1309) (up_pow 1309 h.bb) (up_pow 1309 h.cb)
theorem pure__law_near_right {ds : List D} {hc : CH} {Q : D → CH → Prop} {E} (h : sp__law_near_right ds hc Q E) : c__law_near_right { nx := fun _ hc' => Q .non hc', rt := Q, xp := fun x _ hc' => E x hc' } (startC N__law_near_right ds) hc := by
  obtain ⟨b, r, q, N, o, lo, hi, rfl, dk, hN, om, lb, hb, lh, k⟩ := h
  have lb := up_pow 210 lb
  have hb := up_pow 210 hb
  have ok := om.ok
  unfold c__law_near_right N__law_near_right
  refine seq_step fun M hM => ?_
  refine ⟨rfl, hM _ _ ?_⟩
  clear hM M
  have c0 := om.c0
  refine seq_step fun M hM => ?_
  walk_at "n"
  have mn : 0 < (if 9 < o.c then 9 else o.c) ∧ (if 9 < o.c then 9 else o.c) ≤ 9 ∧ (if 9 < o.c then 9 else o.c) ≤ o.c := by split <;> omega
  revert mn
  generalize (if 9 < o.c then 9 else o.c) = mm
  intro mn
  refine ⟨b, r, q, _, mm, rfl, dk, by omega, by omega, by omega, fun j hc1 j0 j1 dk1 => ?_⟩
  walk_at "n"
  refine hM _ _ ?_
  clear hM M
  obtain ⟨m, em⟩ : ∃ m, m = 1 + j := ⟨_, rfl⟩
  rw [← em]
  have m0 : 0 < m := by omega
  have mc : m ≤ o.c := by omega
  refine seq_step fun M hM => ?_
  suffices rest : ∀ y8 y9, M [.val (.ref r), .val o.d, .val (.int lo), .val (.int hi), .val (.int o.a), .val (.int o.b), .val (.int o.c), .val (.int m), y8, y9, .un] hc1 by
    walk_at "n"
    refine ite2 (fun z => ?_) (fun z => ?_)
    · have z : m < o.c := of_decide_eq_true z
      have dh := dif_hit (a := o.a) (x := o.b) c0 m0 z
      have mb : m.natAbs < 2 ^ 1000 := by
        have := om.cb
        omega
      have tk : (⟨o.a, o.b + m, o.c⟩ : L3).Ok := ⟨c0, up_pow 1010 om.cb, up_pow 1310 om.ab, add_pow (k := 1309) (up_pow 1309 om.bb) (up_pow 1309 mb)⟩
      have hk := hitOk_of om m0 z lb hb
      refine seq_step fun M2 hM2 => ?_
      walk_at "n"
      refine ⟨by decide, hM2 _ _ ?_⟩
      clear hM2 M2
      refine seq_step fun M2 hM2 => ?_
      walk_at "n"
      refine ⟨by decide, hM2 _ _ ?_⟩
      clear hM2 M2
      refine seq_step fun M2 hM2 => ?_
      walk_at "n"
      refine ⟨o, ⟨o.a, o.b + m, o.c⟩, lo, hi, rfl, ok, tk, lb, hb, ?_⟩
      refine ⟨o.a, o.b, o.c, _, _, lo, hi, rfl, hk, ?_⟩
      rw [show cntP (Dif o ⟨o.a, o.b + m, o.c⟩) lo (hi - lo).toNat = hitN o.a o.b o.c (o.c - m) (o.c - 1) lo hi from cntP_congr dh]
      refine neD_ok 0 0 rfl rfl (fun _ => ?_) (fun y => absurd rfl y)
      walk_at "n"
      refine hM2 _ _ ?_
      clear hM2 M2
      walk_at "n"
      refine ⟨o, ⟨o.a, o.b + m, o.c⟩, lo, hi, rfl, ok, tk, lb, hb, ?_⟩
      have ff := first_filL (P := Dif o ⟨o.a, o.b + m, o.c⟩) lh
      have eP : Dif o ⟨o.a, o.b + m, o.c⟩ = HitP o.a o.b o.c (o.c - m) (o.c - 1) := funext fun x => propext (dh x)
      rw [eP] at ff ⊢
      refine ⟨o.a, o.b, o.c, _, _, lo, hi, _, rfl, hk, ff, ?_⟩
      refine neD_ok 0 0 firstD_ok firstD_ok (fun _ => ?_) (fun y => absurd rfl y)
      walk_at "n"
      exact rest _ _
    · walk_at "n"
      exact rest _ _
  intro y8 y9
  refine hM _ _ ?_
  clear hM M
  refine seq_step fun M hM => ?_
  walk_at "n"
  refine ⟨b, r, q, _, _, rfl, dk1, by omega, by decide, by decide, fun j2 hc2 j20 j21 dk2 => ?_⟩
  walk_at "n"
  refine hM _ _ ?_
  clear hM M
  obtain ⟨g, eg⟩ : ∃ g, g = 2 + j2 := ⟨_, rfl⟩
  rw [← eg]
  have g0 : 0 < g := by omega
  have gb : g.natAbs < 2 ^ 5 := by
    have : g.natAbs < 8 := by omega
    exact Nat.lt_trans this (by decide)
  refine seq_step fun M hM => ?_
  walk_at "n"
  refine ⟨mulOk 5 1300 gb om.ab (by decide), mulOk 5 1300 gb om.bb (by decide), mulOk 5 1000 gb om.cb (by decide), by decide, ?_⟩
  refine ⟨o, ⟨g * o.a, g * o.b, g * o.c⟩, lo, hi, rfl, ok, ⟨Int.mul_pos g0 c0, up_pow 1010 (mul_pow gb om.cb), up_pow 1310 (mul_pow gb om.ab), up_pow 1310 (mul_pow gb om.bb)⟩, lb, hb, ?_⟩
  have f0 : filL (Dif o ⟨g * o.a, g * o.b, g * o.c⟩) lo (hi - lo).toNat = [] := by
    have l := filL_len (P := Dif o ⟨g * o.a, g * o.b, g * o.c⟩) (lo := lo) (hi - lo).toNat
    rw [(cntP_zero _).mpr fun k _ => dif_times c0 g0 _] at l
    exact List.eq_nil_of_length_eq_zero (by omega)
  rw [f0]
  walk_at "n"
  refine hM _ _ ?_
  clear hM M
  walk_at "n"
  refine ⟨b, r, q, _, _, rfl, dk2, by omega, by decide, by decide, fun j3 hc3 j30 j31 dk3 => ?_⟩
  walk_at "n"
  have j3b : j3.natAbs < 2 ^ 5 := by
    have : j3.natAbs < 8 := by omega
    exact Nat.lt_trans this (by decide)
  refine ⟨by decide, o, ⟨o.a, o.b + o.c + j3, o.c⟩, lo, hi, rfl, ok, ⟨c0, up_pow 1010 om.cb, up_pow 1310 om.ab, add_pow (k := 1309) (add_pow (k := 1308) (up_pow 1308 om.bb) (up_pow 1308 om.cb)) (up_pow 1309 j3b)⟩, lb, hb, ?_⟩
  rw [cnt_all (fun x => dif_up c0 j30 x), show ((hi - lo).toNat : Int) = hi - lo by omega]
  refine eqD_same 0 rfl ?_
  exact k _ (dk3.mono (by omega))


theorem at__law_near_right (T : Txt K mg) (B : BaseT K mg base) (KX : K.In base) (PS : Sup P mf) (A__law_draw : FnAt P w K mg base 1 "_law_draw" ["_law_deck_here", "_law_many"] sp__law_draw) (A_count_parted : FnAt P w K mg base 7 "count_parted" ["one", "other", "low", "high"] sp_count_parted) (A_count_hits : FnAt P w K mg base 5 "count_hits" ["line", "window", "low", "high"] sp_count_hits) (A_first_parted : FnAt P w K mg base 9 "first_parted" ["one", "other", "low", "high"] sp_first_parted) (A_first_hit : FnAt P w K mg base 9 "first_hit" ["line", "window", "low", "high"] sp_first_hit) : FnAt P w K mg base 10 "_law_near_right" ["_law_deck_here", "_law_line_here", "_law_low", "_law_high"] sp__law_near_right :=
  fn_at (c := c__law_near_right) T.d__law_near_right sc__law_near_right (fun f cdv A outer s H E hr => by
    have nd := sc__law_near_right.nd
    exact (css_cons (cs_asg (ce_v 1) (cg_u rfl (cgs_cons (cg_n 4 nd) (cgs_cons (cg_n 5 nd) (cgs_cons (cg_n 6 nd) cgs_nil)))))
    (css_cons (cs_set nd (ce_op op_addD (CE.bo ce_i) (CE.bo (ce_f A__law_draw hr (ca_cons (ce_v 0) (ca_cons (ce_bf (bf_min2 rfl) T.n_min (cba_cons (CE.bo (ce_v 6)) (cba_cons (CE.bo ce_i) cba_nil))) ca_nil))))))
    (css_cons (cs_if (ct_cmp op_ltD (CE.bo (ce_v 7)) (CE.bo (ce_v 6)))
    (css_cons (cs_set nd (ce_tup (ca_cons (ce_op op_subD (CE.bo (ce_v 6)) (CE.bo (ce_v 7))) (ca_cons (ce_op op_subD (CE.bo (ce_v 6)) (CE.bo ce_i)) ca_nil))))
    (css_cons (cs_set nd (ce_tup (ca_cons (ce_v 4) (ca_cons (ce_op op_addD (CE.bo (ce_v 5)) (CE.bo (ce_v 7))) (ca_cons (ce_v 6) ca_nil)))))
    (css_cons (cs_if (ct_cmp (op_neDD hr.g.units) (CE.bo (ce_f A_count_parted hr (ca_cons (ce_v 1) (ca_cons (ce_v 9) (ca_cons (ce_v 2) (ca_cons (ce_v 3) ca_nil)))))) (CE.bo (ce_f A_count_hits hr (ca_cons (ce_v 1) (ca_cons (ce_v 8) (ca_cons (ce_v 2) (ca_cons (ce_v 3) ca_nil)))))))
    (css_one (cs_ret (CE.bo ce_b)))
    css_nil)
    (css_one (cs_if (ct_cmp (op_neDD hr.g.units) (CE.bo (ce_f A_first_parted hr (ca_cons (ce_v 1) (ca_cons (ce_v 9) (ca_cons (ce_v 2) (ca_cons (ce_v 3) ca_nil)))))) (CE.bo (ce_f A_first_hit hr (ca_cons (ce_v 1) (ca_cons (ce_v 8) (ca_cons (ce_v 2) (ca_cons (ce_v 3) ca_nil)))))))
    (css_one (cs_ret (CE.bo ce_b)))
    css_nil)))))
    css_nil)
    (css_cons (cs_set nd (ce_op op_addD (CE.bo ce_i) (CE.bo (ce_f A__law_draw hr (ca_cons (ce_v 0) (ca_cons ce_i ca_nil))))))
    (css_cons (cs_if (ct_cmp op_notND (CE.bo (ce_f A_first_parted hr (ca_cons (ce_v 1) (ca_cons (ce_tup (ca_cons (ce_op op_mulD (CE.bo (ce_v 10)) (CE.bo (ce_v 4))) (ca_cons (ce_op op_mulD (CE.bo (ce_v 10)) (CE.bo (ce_v 5))) (ca_cons (ce_op op_mulD (CE.bo (ce_v 10)) (CE.bo (ce_v 6))) ca_nil)))) (ca_cons (ce_v 2) (ca_cons (ce_v 3) ca_nil)))))) (CE.bo ce_n))
    (css_one (cs_ret (CE.bo ce_b)))
    css_nil)
    (css_one (cs_ret (CE.bo (ce_cmp (op_eqDD hr.g.units) (CE.bo (ce_f A_count_parted hr (ca_cons (ce_v 1) (ca_cons (ce_tup (ca_cons (ce_v 4) (ca_cons (ce_op op_addD (CE.bo (ce_op op_addD (CE.bo (ce_v 5)) (CE.bo (ce_v 6)))) (CE.bo (ce_f A__law_draw hr (ca_cons (ce_v 0) (ca_cons ce_i ca_nil))))) (ca_cons (ce_v 6) ca_nil)))) (ca_cons (ce_v 2) (ca_cons (ce_v 3) ca_nil)))))) (CE.bo (ce_op op_subD (CE.bo (ce_v 3)) (CE.bo (ce_v 2))))))))))))))
    (fun ds hc Q E h => len__law_near_right h) (fun ds hc Q E h => pure__law_near_right h) (fun _ _ _ _ _ _ us hl => match us, hl with | [_, _, _, _], _ => rfl)

abbrev N__law_widest_right : List Str := ["_law_deck_here", "_law_one", "_law_other", "_law_most", "_law_many"]
def c__law_widest_right : CSx :=
  (cSeq (cAsg (cCall sp__law_pair (cCons (cV 0) (cCons (cC (.int 25)) cNil))) (gUn 2 (gCons' (gN 1) (gCons' (gN 2) gNil'))))
    (cSeq (cAsg (cOp subD (cOp powD (cC (.int 10)) (cC (.int 60))) (cC (.int 1))) (gN 3))
    (cSeq (cAsg (cCall sp_count_parted (cCons (cV 1) (cCons (cV 2) (cCons (cOp subD (cC (.int 0)) (cV 3)) (cCons (cV 3) cNil))))) (gN 4))
    (cSeq (cIfS (cT (cOp neD (cOp addD (cCall sp_count_parted (cCons (cV 1) (cCons (cV 2) (cCons (cOp subD (cC (.int 0)) (cV 3)) (cCons (cC (.int 0)) cNil))))) (cCall sp_count_parted (cCons (cV 1) (cCons (cV 2) (cCons (cC (.int 0)) (cCons (cV 3) cNil)))))) (cV 4)))
    (cRet (cC (.bl false)))
    cNext)
    (cSeq (cIfS (cT (cOp eqD (cV 4) (cC (.int 0))))
    (cRet (cOp isND (cCall sp_first_parted (cCons (cV 1) (cCons (cV 2) (cCons (cOp subD (cC (.int 0)) (cV 3)) (cCons (cV 3) cNil))))) (cC .non)))
    cNext)
    (cRet (cCall sp__law_place_right (cCons (cV 1) (cCons (cV 2) (cCons (cOp subD (cC (.int 0)) (cV 3)) (cCons (cV 3) (cCons (cOp ixD (cLst (cCons (cC (.int 0)) (cCons (cOp subD (cV 4) (cC (.int 1))) (cCons (cOp fdivD (cV 4) (cC (.int 2))) cNil)))) (cCall sp__law_draw (cCons (cV 0) (cCons (cC (.int 3)) cNil)))) cNil))))))))))))

def sp__law_widest_right : Spc := fun ds hc Q _ => ∃ b r q N, ds = [.ref r] ∧ Dk b r q N hc ∧ N < 700000 ∧ ∀ hc', Q (.bl true) hc'
theorem len__law_widest_right {ds : List D} {hc : CH} {Q E} (h : sp__law_widest_right ds hc Q E) : ds.length = 1 := by
  obtain ⟨b, r, q, N, rfl, _⟩ := h
  rfl
theorem pure__law_widest_right {ds : List D} {hc : CH} {Q : D → CH → Prop} {E} (h : sp__law_widest_right ds hc Q E) : c__law_widest_right { nx := fun _ hc' => Q .non hc', rt := Q, xp := fun x _ hc' => E x hc' } (startC N__law_widest_right ds) hc := by
  obtain ⟨b, r, q, N, rfl, dk, hN, k⟩ := h
  unfold c__law_widest_right N__law_widest_right
  refine seq_step fun M hM => ?_
  walk_at "n"
  refine ⟨b, r, q, _, 25, rfl, by decide, by decide, dk, by omega, fun o t hc1 om tm dk1 => ?_⟩
  have ok := om.ok
  have tk := tm.ok
  walk_at "n"
  refine hM _ _ ?_
  clear hM M
  refine seq_step fun M hM => ?_
  walk_at "n"
  refine ⟨⟨by decide, by decide, by decide⟩, hM _ _ ?_⟩
  clear hM M
  obtain ⟨W, eW⟩ : ∃ W : Int, W = 10 ^ Int.toNat 60 - 1 := ⟨_, rfl⟩
  have W0 : 0 < W := by rw [eW]; decide
  have Wb : W.natAbs < 2 ^ 210 := by rw [eW]; decide
  rw [← eW]
  clear eW
  have Wm : (0 - W).natAbs < 2 ^ 210 := by omega
  have zb : (0 : Int).natAbs < 2 ^ 210 := by decide
  refine seq_step fun M hM => ?_
  walk_at "n"
  refine ⟨o, t, _, W, rfl, ok, tk, Wm, Wb, hM _ _ ?_⟩
  clear hM M
  have nn := cntP_nn (P := Dif o t) (lo := 0 - W) (W - (0 - W)).toNat
  have half := cnt_cat (P := Dif o t) (lo := 0 - W) (m := 0) (hi := W) (by omega) (by omega)
  have len := filL_len (P := Dif o t) (lo := 0 - W) (W - (0 - W)).toNat
  obtain ⟨n, en⟩ : ∃ n, n = cntP (Dif o t) (0 - W) (W - (0 - W)).toNat := ⟨_, rfl⟩
  rw [← en] at half nn len ⊢
  refine seq_step fun M hM => ?_
  walk_at "n"
  refine ⟨o, t, _, 0, rfl, ok, tk, Wm, zb, ?_⟩
  refine ⟨o, t, 0, W, rfl, ok, tk, zb, Wb, ?_⟩
  walk_at "n"
  rw [decide_eq_true half]
  walk_at "n"
  refine hM _ _ ?_
  clear hM M
  refine seq_step fun M hM => ?_
  walk_at "n"
  refine ite2 (fun z => ?_) (fun z => ?_)
  · have z : n = 0 := of_decide_eq_true z
    walk_at "n"
    refine ⟨o, t, _, W, rfl, ok, tk, Wm, Wb, ?_⟩
    rw [List.eq_nil_of_length_eq_zero (show (filL (Dif o t) (0 - W) (W - (0 - W)).toNat).length = 0 by omega)]
    exact k _
  · have z : ¬ n = 0 := fun y => z (decide_eq_true y)
    walk_at "n"
    refine hM _ _ ?_
    walk_at "n"
    refine ⟨divOk 2 (by decide) (by decide) (by decide), by decide, b, r, q, _, _, rfl, dk1, by omega, by decide, by decide, fun j hc2 j0 j1 dk2 => ?_⟩
    have hx : ∃ i : Int, 0 ≤ i ∧ i < n ∧ atI [.int 0, .int (n - 1), .int (n / 2)] j = some (D.int i) := by
      rcases (show j = 0 ∨ j = 1 ∨ j = 2 by omega) with rfl | rfl | rfl
      · exact ⟨_, Int.le_refl _, by omega, rfl⟩
      · exact ⟨_, by omega, by omega, rfl⟩
      · exact ⟨_, by omega, by omega, rfl⟩
    obtain ⟨i, i0, i1, ei⟩ := hx
    refine oth_some ei ?_
    exact ⟨o, t, _, W, i, rfl, ok, tk, Wm, Wb, i0, by rw [← en]; exact i1, k _⟩


theorem at__law_widest_right (T : Txt K mg) (B : BaseT K mg base) (KX : K.In base) (PS : Sup P mf) (A__law_pair : FnAt P w K mg base 4 "_law_pair" ["_law_deck_here", "_law_most"] sp__law_pair) (A_count_parted : FnAt P w K mg base 7 "count_parted" ["one", "other", "low", "high"] sp_count_parted) (A_first_parted : FnAt P w K mg base 9 "first_parted" ["one", "other", "low", "high"] sp_first_parted) (A__law_draw : FnAt P w K mg base 1 "_law_draw" ["_law_deck_here", "_law_many"] sp__law_draw) (A__law_place_right : FnAt P w K mg base 10 "_law_place_right" ["_law_one", "_law_other", "_law_low", "_law_high", "_law_index"] sp__law_place_right) : FnAt P w K mg base 11 "_law_widest_right" ["_law_deck_here"] sp__law_widest_right :=
  fn_at (c := c__law_widest_right) T.d__law_widest_right sc__law_widest_right (fun f cdv A outer s H E hr => by
    have nd := sc__law_widest_right.nd
    exact (css_cons (cs_asg (ce_f A__law_pair hr (ca_cons (ce_v 0) (ca_cons ce_i ca_nil))) (cg_u rfl (cgs_cons (cg_n 1 nd) (cgs_cons (cg_n 2 nd) cgs_nil))))
    (css_cons (cs_set nd (ce_op op_subD (CE.bo (ce_op op_powD (CE.bo ce_i) (CE.bo ce_i))) (CE.bo ce_i)))
    (css_cons (cs_set nd (ce_f A_count_parted hr (ca_cons (ce_v 1) (ca_cons (ce_v 2) (ca_cons (ce_op op_subD (CE.bo ce_i) (CE.bo (ce_v 3))) (ca_cons (ce_v 3) ca_nil))))))
    (css_cons (cs_if (ct_cmp (op_neDD hr.g.units) (CE.bo (ce_op op_addD (CE.bo (ce_f A_count_parted hr (ca_cons (ce_v 1) (ca_cons (ce_v 2) (ca_cons (ce_op op_subD (CE.bo ce_i) (CE.bo (ce_v 3))) (ca_cons ce_i ca_nil)))))) (CE.bo (ce_f A_count_parted hr (ca_cons (ce_v 1) (ca_cons (ce_v 2) (ca_cons ce_i (ca_cons (ce_v 3) ca_nil)))))))) (CE.bo (ce_v 4)))
    (css_one (cs_ret (CE.bo ce_b)))
    css_nil)
    (css_cons (cs_if (ct_cmp (op_eqDD hr.g.units) (CE.bo (ce_v 4)) (CE.bo ce_i))
    (css_one (cs_ret (CE.bo (ce_cmp op_isND (CE.bo (ce_f A_first_parted hr (ca_cons (ce_v 1) (ca_cons (ce_v 2) (ca_cons (ce_op op_subD (CE.bo ce_i) (CE.bo (ce_v 3))) (ca_cons (ce_v 3) ca_nil)))))) (CE.bo ce_n)))))
    css_nil)
    (css_one (cs_ret (CE.bo (ce_f A__law_place_right hr (ca_cons (ce_v 1) (ca_cons (ce_v 2) (ca_cons (ce_op op_subD (CE.bo ce_i) (CE.bo (ce_v 3))) (ca_cons (ce_v 3) (ca_cons (ce_ix (CE.bo (ce_lst (ca_cons ce_i (ca_cons (ce_op op_subD (CE.bo (ce_v 4)) (CE.bo ce_i)) (ca_cons (ce_op op_fdivD (CE.bo (ce_v 4)) (CE.bo ce_i)) ca_nil))))) (ce_f A__law_draw hr (ca_cons (ce_v 0) (ca_cons ce_i ca_nil)))) ca_nil)))))))))))))))
    (fun ds hc Q E h => len__law_widest_right h) (fun ds hc Q E h => pure__law_widest_right h) (fun _ _ _ _ _ _ us hl => match us, hl with | [_], _ => rfl)

abbrev N_law : List Str := ["_law_script", "_law_deck_here", "_law_turn", "_law_one", "_law_other", "_law_low", "_law_high"]
def c_law : CSx :=
  (cSeq (cAsg (cCall sp__law_deck (cCons (cV 0) cNil)) (gN 1))
    (cSeq (cFor (cR1 (cCons (cC (.int 5)) cNil)) (gN 2)
    (cSeq (cAsg (cCall sp__law_pair (cCons (cV 1) (cCons (cC (.int 25)) cNil))) (gUn 2 (gCons' (gN 3) (gCons' (gN 4) gNil'))))
    (cSeq (cAsg (cCall sp__law_far (cCons (cV 1) (cCons (cC (.int 3)) cNil))) (gUn 2 (gCons' (gN 5) (gCons' (gN 6) gNil'))))
    (cIfS (cOr (cNot (cT (cCall sp__law_pair_right (cCons (cV 3) (cCons (cV 4) (cCons (cV 5) (cCons (cV 6) cNil))))))) (cNot (cT (cCall sp__law_near_right (cCons (cV 1) (cCons (cV 3) (cCons (cV 5) (cCons (cV 6) cNil))))))))
    (cRet (cC (.bl false)))
    cNext))))
    (cRet (cAndV (cOp isND (cCall sp_first_parted (cCons (cTup (cCons (cC (.int 2)) (cCons (cC (.int 1)) (cCons (cC (.int 4)) cNil)))) (cCons (cTup (cCons (cC (.int 1)) (cCons (cC (.int 0)) (cCons (cC (.int 2)) cNil)))) (cCons (cC (.int 0)) (cCons (cOp powD (cC (.int 10)) (cC (.int 30))) cNil))))) (cC .non)) (cCall sp__law_widest_right (cCons (cV 1) cNil))))))

def sp_law : Spc := spLaw
theorem len_law {ds : List D} {hc : CH} {Q E} (h : sp_law ds hc Q E) : ds.length = 1 := by
  obtain ⟨ns, rfl, _⟩ := h
  rfl
theorem pure_law {ds : List D} {hc : CH} {Q : D → CH → Prop} {E} (h : sp_law ds hc Q E) : c_law { nx := fun _ hc' => Q .non hc', rt := Q, xp := fun x _ hc' => E x hc' } (startC N_law ds) hc := by
  obtain ⟨ns, rfl, hl, k⟩ := h
  unfold c_law N_law
  refine seq_step fun M hM => ?_
  walk_at "n"
  refine ⟨ns, rfl, hl, fun r q hc1 dk => hM _ _ ?_⟩
  clear hM M
  refine seq_step fun M hM => ?_
  refine for_step fun R hR => ?_
  walk_at "n"
  refine hR _ _ (fun i sc h => (∃ o2 o3 o4 o5 o6, sc = [.val (.frz (ns.map D.int)), .val (.ref r), o2, o3, o4, o5, o6]) ∧ Dk hc r q (600 * i) h) ⟨⟨_, _, _, _, _, rfl⟩, dk⟩ (fun j d sc h Nx e I nx => ?_) (fun sc h I => ?_)
  · obtain ⟨⟨o2, o3, o4, o5, o6, rfl⟩, dk⟩ := I
    obtain ⟨rfl, jp⟩ := rng_at e
    clear e
    walk_at "b"
    refine seq_step fun M2 hM2 => ?_
    walk_at "n"
    refine ⟨hc, r, q, _, 25, rfl, by decide, by decide, dk, by omega, fun o t hc2 om tm dk => ?_⟩
    walk_at "n"
    refine hM2 _ _ ?_
    clear hM2 M2
    refine seq_step fun M2 hM2 => ?_
    walk_at "n"
    refine ⟨hc, r, q, _, _, rfl, by decide, by decide, dk, by omega, fun lo m hc3 lb m1 mb dk => ?_⟩
    walk_at "n"
    refine hM2 _ _ ?_
    clear hM2 M2
    have hb : (lo + m).natAbs < 2 ^ 209 := up_pow 209 (k := 201) (add_pow lb (up_pow 200 mb))
    walk_at "n"
    refine ⟨o, t, lo, _, rfl, om.ok, tm.ok, up_pow 209 lb, hb, by clear lb mb hb; omega, ?_⟩
    walk_at "n"
    refine ⟨hc, r, q, _, o, lo, _, rfl, dk, by omega, om, up_pow 209 lb, hb, by clear lb mb hb; omega, fun hc4 dk => ?_⟩
    walk_at "n"
    exact nx _ _ ⟨⟨_, _, _, _, _, rfl⟩, dk.mono (by omega)⟩
  · obtain ⟨⟨o2, o3, o4, o5, o6, rfl⟩, dk⟩ := I
    refine hM _ _ ?_
    clear hR R hM M
    walk_at "n"
    have f0 : filL (Dif ⟨2, 1, 4⟩ ⟨1, 0, 2⟩) 0 (10 ^ Int.toNat 30 - 0 : Int).toNat = [] := by
      have l := filL_len (P := Dif ⟨2, 1, 4⟩ ⟨1, 0, 2⟩) (lo := 0) (10 ^ Int.toNat 30 - 0 : Int).toNat
      rw [(cntP_zero _).mpr fun k _ y => y (by
        show (2 * (0 + (k : Int)) + 1) / 4 = (1 * (0 + (k : Int)) + 0) / 2
        omega)] at l
      exact List.eq_nil_of_length_eq_zero (by omega)
    refine ⟨by decide, by decide, ⟨by decide, by decide, by decide⟩, ⟨2, 1, 4⟩, ⟨1, 0, 2⟩, 0, _, rfl, ⟨by decide, by decide +kernel, by decide +kernel, by decide +kernel⟩, ⟨by decide, by decide +kernel, by decide +kernel, by decide +kernel⟩, by decide +kernel, by decide +kernel, ?_⟩
    rw [f0]
    walk_at "n"
    have dk : Dk hc r q (600 * 5) h := dk
    exact ⟨hc, r, q, _, rfl, dk, by decide, k⟩


theorem at_law (T : Txt K mg) (B : BaseT K mg base) (KX : K.In base) (PS : Sup P mf) (A__law_deck : FnAt P w K mg base 1 "_law_deck" ["_law_script"] sp__law_deck) (A__law_pair : FnAt P w K mg base 4 "_law_pair" ["_law_deck_here", "_law_most"] sp__law_pair) (A__law_far : FnAt P w K mg base 3 "_law_far" ["_law_deck_here", "_law_most"] sp__law_far) (A__law_pair_right : FnAt P w K mg base 12 "_law_pair_right" ["_law_one", "_law_other", "_law_low", "_law_high"] sp__law_pair_right) (A__law_near_right : FnAt P w K mg base 10 "_law_near_right" ["_law_deck_here", "_law_line_here", "_law_low", "_law_high"] sp__law_near_right) (A_first_parted : FnAt P w K mg base 9 "first_parted" ["one", "other", "low", "high"] sp_first_parted) (A__law_widest_right : FnAt P w K mg base 11 "_law_widest_right" ["_law_deck_here"] sp__law_widest_right) : FnAt P w K mg base 13 "law" ["_law_script"] sp_law :=
  fn_at (c := c_law) T.d_law sc_law (fun f cdv A outer s H E hr => by
    have nd := sc_law.nd
    exact (css_cons (cs_set nd (ce_f A__law_deck hr (ca_cons (ce_v 0) ca_nil)))
    (css_cons (cs_for hr.p rfl (ci_r1 T.n_range (ca_cons ce_i ca_nil)) (cg_n 2 nd)
    (css_cons (cs_asg (ce_f A__law_pair hr (ca_cons (ce_v 1) (ca_cons ce_i ca_nil))) (cg_u rfl (cgs_cons (cg_n 3 nd) (cgs_cons (cg_n 4 nd) cgs_nil))))
    (css_cons (cs_asg (ce_f A__law_far hr (ca_cons (ce_v 1) (ca_cons ce_i ca_nil))) (cg_u rfl (cgs_cons (cg_n 5 nd) (cgs_cons (cg_n 6 nd) cgs_nil))))
    (css_one (cs_if (CW.t (cw_or (ct_not (ct_e (ce_f A__law_pair_right hr (ca_cons (ce_v 3) (ca_cons (ce_v 4) (ca_cons (ce_v 5) (ca_cons (ce_v 6) ca_nil))))))) (cw_or1 (ct_not (ct_e (ce_f A__law_near_right hr (ca_cons (ce_v 1) (ca_cons (ce_v 3) (ca_cons (ce_v 5) (ca_cons (ce_v 6) ca_nil))))))))))
    (css_one (cs_ret (CE.bo ce_b)))
    css_nil)))))
    (css_one (cs_ret (CE.bo (ce_and (ce_cmp op_isND (CE.bo (ce_f A_first_parted hr (ca_cons (ce_tup (ca_cons ce_i (ca_cons ce_i (ca_cons ce_i ca_nil)))) (ca_cons (ce_tup (ca_cons ce_i (ca_cons ce_i (ca_cons ce_i ca_nil)))) (ca_cons ce_i (ca_cons (ce_op op_powD (CE.bo ce_i) (CE.bo ce_i)) ca_nil)))))) (CE.bo ce_n)) (ce_one (ce_f A__law_widest_right hr (ca_cons (ce_v 1) ca_nil))))))))))
    (fun ds hc Q E h => len_law h) (fun ds hc Q E h => pure_law h) (fun _ _ _ _ _ _ us hl => match us, hl with | [_], _ => rfl)

/-! the head -/

def dd__law_deck : He.DefD := ⟨("_law_deck", none), "_law_deck", "_law_deck", defArgs s__law_deck, defBody s__law_deck, defScope s__law_deck, [], []⟩

def dd__law_draw : He.DefD := ⟨("_law_draw", none), "_law_draw", "_law_draw", defArgs s__law_draw, defBody s__law_draw, defScope s__law_draw, [], []⟩

def dd__law_number : He.DefD := ⟨("_law_number", none), "_law_number", "_law_number", defArgs s__law_number, defBody s__law_number, defScope s__law_number, [], []⟩

def dd__law_line : He.DefD := ⟨("_law_line", none), "_law_line", "_law_line", defArgs s__law_line, defBody s__law_line, defScope s__law_line, [], []⟩

def dd__law_pair : He.DefD := ⟨("_law_pair", none), "_law_pair", "_law_pair", defArgs s__law_pair, defBody s__law_pair, defScope s__law_pair, [], []⟩

def dd__law_far : He.DefD := ⟨("_law_far", none), "_law_far", "_law_far", defArgs s__law_far, defBody s__law_far, defScope s__law_far, [], []⟩

def dd_difference : He.DefD := ⟨("difference", none), "difference", "difference", defArgs s_difference, defBody s_difference, defScope s_difference, [], []⟩

def dd_first_from : He.DefD := ⟨("first_from", none), "first_from", "first_from", defArgs s_first_from, defBody s_first_from, defScope s_first_from, [], []⟩

def dd_parts_of : He.DefD := ⟨("parts_of", none), "parts_of", "parts_of", defArgs s_parts_of, defBody s_parts_of, defScope s_parts_of, [], []⟩

def dd_first_turn : He.DefD := ⟨("first_turn", none), "first_turn", "first_turn", defArgs s_first_turn, defBody s_first_turn, defScope s_first_turn, [], []⟩

def dd_next_turn : He.DefD := ⟨("next_turn", none), "next_turn", "next_turn", defArgs s_next_turn, defBody s_next_turn, defScope s_next_turn, [], []⟩

def dd_value_at : He.DefD := ⟨("value_at", none), "value_at", "value_at", defArgs s_value_at, defBody s_value_at, defScope s_value_at, [], []⟩

def dd_sum_of_turn : He.DefD := ⟨("sum_of_turn", none), "sum_of_turn", "sum_of_turn", defArgs s_sum_of_turn, defBody s_sum_of_turn, defScope s_sum_of_turn, [], []⟩

def dd_sum_rows : He.DefD := ⟨("sum_rows", none), "sum_rows", "sum_rows", defArgs s_sum_rows, defBody s_sum_rows, defScope s_sum_rows, [], []⟩

def dd_sum_of : He.DefD := ⟨("sum_of", none), "sum_of", "sum_of", defArgs s_sum_of, defBody s_sum_of, defScope s_sum_of, [], []⟩

def dd_count_in : He.DefD := ⟨("count_in", none), "count_in", "count_in", defArgs s_count_in, defBody s_count_in, defScope s_count_in, [], []⟩

def dd_counts_of : He.DefD := ⟨("counts_of", none), "counts_of", "counts_of", defArgs s_counts_of, defBody s_counts_of, defScope s_counts_of, [], []⟩

def dd_count_parted : He.DefD := ⟨("count_parted", none), "count_parted", "count_parted", defArgs s_count_parted, defBody s_count_parted, defScope s_count_parted, [], []⟩

def dd_is_whole : He.DefD := ⟨("is_whole", none), "is_whole", "is_whole", defArgs s_is_whole, defBody s_is_whole, defScope s_is_whole, [], []⟩

def dd_is_between : He.DefD := ⟨("is_between", none), "is_between", "is_between", defArgs s_is_between, defBody s_is_between, defScope s_is_between, [], []⟩

def dd_place_of : He.DefD := ⟨("place_of", none), "place_of", "place_of", defArgs s_place_of, defBody s_place_of, defScope s_place_of, [], []⟩

def dd_place_in_parted : He.DefD := ⟨("place_in_parted", none), "place_in", "place_in", defArgs s_place_in_parted, defBody s_place_in_parted, defScope s_place_in_parted, [], []⟩

def dd_parted_at : He.DefD := ⟨("parted_at", none), "parted_at", "parted_at", defArgs s_parted_at, defBody s_parted_at, defScope s_parted_at, [], []⟩

def dd__law_place_right : He.DefD := ⟨("_law_place_right", none), "_law_place_right", "_law_place_right", defArgs s__law_place_right, defBody s__law_place_right, defScope s__law_place_right, [], []⟩

def dd_first_parted : He.DefD := ⟨("first_parted", none), "first_parted", "first_parted", defArgs s_first_parted, defBody s_first_parted, defScope s_first_parted, [], []⟩

def dd__law_index_fails : He.DefD := ⟨("_law_index_fails", none), "_law_index_fails", "_law_index_fails", defArgs s__law_index_fails, defBody s__law_index_fails, defScope s__law_index_fails, [], []⟩

def dd__law_pair_right : He.DefD := ⟨("_law_pair_right", none), "_law_pair_right", "_law_pair_right", defArgs s__law_pair_right, defBody s__law_pair_right, defScope s__law_pair_right, [], []⟩

def dd_lines_of : He.DefD := ⟨("lines_of", none), "lines_of", "lines_of", defArgs s_lines_of, defBody s_lines_of, defScope s_lines_of, [], []⟩

def dd_count_hits : He.DefD := ⟨("count_hits", none), "count_hits", "count_hits", defArgs s_count_hits, defBody s_count_hits, defScope s_count_hits, [], []⟩

def dd_place_in_hits : He.DefD := ⟨("place_in_hits", none), "place_in", "place_in", defArgs s_place_in_hits, defBody s_place_in_hits, defScope s_place_in_hits, [], []⟩

def dd_first_hit : He.DefD := ⟨("first_hit", none), "first_hit", "first_hit", defArgs s_first_hit, defBody s_first_hit, defScope s_first_hit, [], []⟩

def dd__law_near_right : He.DefD := ⟨("_law_near_right", none), "_law_near_right", "_law_near_right", defArgs s__law_near_right, defBody s__law_near_right, defScope s__law_near_right, [], []⟩

def dd__law_widest_right : He.DefD := ⟨("_law_widest_right", none), "_law_widest_right", "_law_widest_right", defArgs s__law_widest_right, defBody s__law_widest_right, defScope s__law_widest_right, [], []⟩

def dd_law : He.DefD := ⟨("law", none), "law", "law", defArgs s_law, defBody s_law, defScope s_law, [], []⟩

def fn : List He.DefD := [dd__law_deck, dd__law_draw, dd__law_number, dd__law_line, dd__law_pair, dd__law_far, dd_difference, dd_first_from, dd_parts_of, dd_first_turn, dd_next_turn, dd_value_at, dd_sum_of_turn, dd_sum_rows, dd_sum_of, dd_count_in, dd_counts_of, dd_count_parted, dd_is_whole, dd_is_between, dd_place_of, dd_place_in_parted, dd_parted_at, dd__law_place_right, dd_first_parted, dd__law_index_fails, dd__law_pair_right, dd_lines_of, dd_count_hits, dd_place_in_hits, dd_first_hit, dd__law_near_right, dd__law_widest_right, dd_law]

def fa : List He.Fa := [.glo "_law_deck", .glo "_law_draw", .glo "_law_number", .glo "_law_line", .glo "_law_pair", .glo "_law_far", .glo "difference", .glo "first_from", .glo "parts_of", .glo "first_turn", .glo "next_turn", .glo "value_at", .glo "sum_of_turn", .glo "sum_rows", .glo "sum_of", .glo "count_in", .glo "counts_of", .glo "count_parted", .glo "is_whole", .glo "is_between", .glo "place_of", .glo "place_in_parted", .glo "parted_at", .glo "_law_place_right", .glo "first_parted", .glo "_law_index_fails", .glo "_law_pair_right", .glo "lines_of", .glo "count_hits", .glo "place_in_hits", .glo "first_hit", .glo "_law_near_right", .glo "_law_widest_right", .glo "law", .free "LookupError", .free "ValueError", .free "abs", .free "bool", .free "int", .free "isinstance", .free "len", .free "max", .free "min", .free "range", .free "repr", .free "sum", .free "super", .free "tuple", .free "zip", .int "SMALL" 4, .glo "NoIndex", .exm "NoIndex" "NoIndex" true]

def tc : TupC := []

abbrev R : PySem.W.OpenRow := PySem.W.OpenLaw.row PySem.Challenge.rw_numbertexts_k10_whole_parted_on_long_ran
def lm : List PySem.Str := ["place_in_parted", "_law_pair_right", "place_in_hits"]
def ini : List IniD := [ini_NoIndex]
def isl : List IsF := [.blt "NoIndex" "LookupError" true, .blt "NoIndex" "ValueError" false]
abbrev hk : PySem.W.Hook := hookZ 4 fa fn tc lm mf ini fvL isl
def ob (s : PySem.W.SharedT) : ((((He.AlD × Bool) × Bool) × (Bool × List IniW)) × Bool) × Bool := obsZG 4 fa fn tc lm mf ini fvL isl (HandSHeadRun.getT s)
theorem ob_eq (s : PySem.W.SharedT) : ob s = hk.obs s.abs := obsZG_eq (HandSHeadRun.getT_eq s)

def loose : List PySem.Str := (["is_whole", "is_between", "NoIndex", "place_of", "SMALL", "value_at", "first_turn", "next_turn", "sum_of_turn", "sum_rows", "sum_of", "difference"] : List PySem.Str) ++ (["first_from", "parts_of", "count_in", "counts_of", "place_in", "place_in_parted", "first_parted", "count_parted", "parted_at", "lines_of", "count_hits", "place_in"] : List PySem.Str) ++ (["place_in_hits", "first_hit", "_law_deck", "_law_draw", "_law_number", "_law_line", "_law_far", "_law_pair", "_law_index_fails", "_law_place_right", "_law_pair_right", "_law_near_right"] : List PySem.Str) ++ (["_law_widest_right"] : List PySem.Str)

theorem run (w : World) : HandSHeadRun.RunEq R (PySem.W.view R.prog [44]) hk ob 5800 loose w := by
  intro os
  kernel_rfl

theorem txt_of {h : Heap} (X : K.In h) (G : h.Ns mainGlobals mg) (v : SaysT fa fn tc K h) (l : ∀ x ∈ lm, lamN K x = true) (o : ∀ d ∈ ini, ownB K mf d = true ∧ iniW K d.x = d.val) (fvk : FvOk K fvL) (isq : ∀ f ∈ isl, isB K f = true) : Txt K mg :=
  have u := v.1
  {
    d__law_deck := by
      obtain ⟨fd, F⟩ := u.d.def_ 0 (d := dd__law_deck) rfl
      exact ⟨_, fd, F, He.glo_ok X G (u.d.fact 0 (f := .glo "_law_deck") rfl)⟩
    d__law_draw := by
      obtain ⟨fd, F⟩ := u.d.def_ 1 (d := dd__law_draw) rfl
      exact ⟨_, fd, F, He.glo_ok X G (u.d.fact 1 (f := .glo "_law_draw") rfl)⟩
    d__law_number := by
      obtain ⟨fd, F⟩ := u.d.def_ 2 (d := dd__law_number) rfl
      exact ⟨_, fd, F, He.glo_ok X G (u.d.fact 2 (f := .glo "_law_number") rfl)⟩
    d__law_line := by
      obtain ⟨fd, F⟩ := u.d.def_ 3 (d := dd__law_line) rfl
      exact ⟨_, fd, F, He.glo_ok X G (u.d.fact 3 (f := .glo "_law_line") rfl)⟩
    d__law_pair := by
      obtain ⟨fd, F⟩ := u.d.def_ 4 (d := dd__law_pair) rfl
      exact ⟨_, fd, F, He.glo_ok X G (u.d.fact 4 (f := .glo "_law_pair") rfl)⟩
    d__law_far := by
      obtain ⟨fd, F⟩ := u.d.def_ 5 (d := dd__law_far) rfl
      exact ⟨_, fd, F, He.glo_ok X G (u.d.fact 5 (f := .glo "_law_far") rfl)⟩
    d_difference := by
      obtain ⟨fd, F⟩ := u.d.def_ 6 (d := dd_difference) rfl
      exact ⟨_, fd, F, He.glo_ok X G (u.d.fact 6 (f := .glo "difference") rfl)⟩
    d_first_from := by
      obtain ⟨fd, F⟩ := u.d.def_ 7 (d := dd_first_from) rfl
      exact ⟨_, fd, F, He.glo_ok X G (u.d.fact 7 (f := .glo "first_from") rfl)⟩
    d_parts_of := by
      obtain ⟨fd, F⟩ := u.d.def_ 8 (d := dd_parts_of) rfl
      exact ⟨_, fd, F, He.glo_ok X G (u.d.fact 8 (f := .glo "parts_of") rfl)⟩
    d_first_turn := by
      obtain ⟨fd, F⟩ := u.d.def_ 9 (d := dd_first_turn) rfl
      exact ⟨_, fd, F, He.glo_ok X G (u.d.fact 9 (f := .glo "first_turn") rfl)⟩
    d_next_turn := by
      obtain ⟨fd, F⟩ := u.d.def_ 10 (d := dd_next_turn) rfl
      exact ⟨_, fd, F, He.glo_ok X G (u.d.fact 10 (f := .glo "next_turn") rfl)⟩
    d_value_at := by
      obtain ⟨fd, F⟩ := u.d.def_ 11 (d := dd_value_at) rfl
      exact ⟨_, fd, F, He.glo_ok X G (u.d.fact 11 (f := .glo "value_at") rfl)⟩
    d_sum_of_turn := by
      obtain ⟨fd, F⟩ := u.d.def_ 12 (d := dd_sum_of_turn) rfl
      exact ⟨_, fd, F, He.glo_ok X G (u.d.fact 12 (f := .glo "sum_of_turn") rfl)⟩
    d_sum_rows := by
      obtain ⟨fd, F⟩ := u.d.def_ 13 (d := dd_sum_rows) rfl
      exact ⟨_, fd, F, He.glo_ok X G (u.d.fact 13 (f := .glo "sum_rows") rfl)⟩
    d_sum_of := by
      obtain ⟨fd, F⟩ := u.d.def_ 14 (d := dd_sum_of) rfl
      exact ⟨_, fd, F, He.glo_ok X G (u.d.fact 14 (f := .glo "sum_of") rfl)⟩
    d_count_in := by
      obtain ⟨fd, F⟩ := u.d.def_ 15 (d := dd_count_in) rfl
      exact ⟨_, fd, F, He.glo_ok X G (u.d.fact 15 (f := .glo "count_in") rfl)⟩
    d_counts_of := by
      obtain ⟨fd, F⟩ := u.d.def_ 16 (d := dd_counts_of) rfl
      exact ⟨_, fd, F, He.glo_ok X G (u.d.fact 16 (f := .glo "counts_of") rfl)⟩
    d_count_parted := by
      obtain ⟨fd, F⟩ := u.d.def_ 17 (d := dd_count_parted) rfl
      exact ⟨_, fd, F, He.glo_ok X G (u.d.fact 17 (f := .glo "count_parted") rfl)⟩
    d_is_whole := by
      obtain ⟨fd, F⟩ := u.d.def_ 18 (d := dd_is_whole) rfl
      exact ⟨_, fd, F, He.glo_ok X G (u.d.fact 18 (f := .glo "is_whole") rfl)⟩
    d_is_between := by
      obtain ⟨fd, F⟩ := u.d.def_ 19 (d := dd_is_between) rfl
      exact ⟨_, fd, F, He.glo_ok X G (u.d.fact 19 (f := .glo "is_between") rfl)⟩
    d_place_of := by
      obtain ⟨fd, F⟩ := u.d.def_ 20 (d := dd_place_of) rfl
      exact ⟨_, fd, F, He.glo_ok X G (u.d.fact 20 (f := .glo "place_of") rfl)⟩
    d_place_in_parted := by
      obtain ⟨fd, F⟩ := u.d.def_ 21 (d := dd_place_in_parted) rfl
      exact ⟨_, fd, F, He.glo_ok X G (u.d.fact 21 (f := .glo "place_in_parted") rfl)⟩
    d_parted_at := by
      obtain ⟨fd, F⟩ := u.d.def_ 22 (d := dd_parted_at) rfl
      exact ⟨_, fd, F, He.glo_ok X G (u.d.fact 22 (f := .glo "parted_at") rfl)⟩
    d__law_place_right := by
      obtain ⟨fd, F⟩ := u.d.def_ 23 (d := dd__law_place_right) rfl
      exact ⟨_, fd, F, He.glo_ok X G (u.d.fact 23 (f := .glo "_law_place_right") rfl)⟩
    d_first_parted := by
      obtain ⟨fd, F⟩ := u.d.def_ 24 (d := dd_first_parted) rfl
      exact ⟨_, fd, F, He.glo_ok X G (u.d.fact 24 (f := .glo "first_parted") rfl)⟩
    d__law_index_fails := by
      obtain ⟨fd, F⟩ := u.d.def_ 25 (d := dd__law_index_fails) rfl
      exact ⟨_, fd, F, He.glo_ok X G (u.d.fact 25 (f := .glo "_law_index_fails") rfl)⟩
    d__law_pair_right := by
      obtain ⟨fd, F⟩ := u.d.def_ 26 (d := dd__law_pair_right) rfl
      exact ⟨_, fd, F, He.glo_ok X G (u.d.fact 26 (f := .glo "_law_pair_right") rfl)⟩
    d_lines_of := by
      obtain ⟨fd, F⟩ := u.d.def_ 27 (d := dd_lines_of) rfl
      exact ⟨_, fd, F, He.glo_ok X G (u.d.fact 27 (f := .glo "lines_of") rfl)⟩
    d_count_hits := by
      obtain ⟨fd, F⟩ := u.d.def_ 28 (d := dd_count_hits) rfl
      exact ⟨_, fd, F, He.glo_ok X G (u.d.fact 28 (f := .glo "count_hits") rfl)⟩
    d_place_in_hits := by
      obtain ⟨fd, F⟩ := u.d.def_ 29 (d := dd_place_in_hits) rfl
      exact ⟨_, fd, F, He.glo_ok X G (u.d.fact 29 (f := .glo "place_in_hits") rfl)⟩
    d_first_hit := by
      obtain ⟨fd, F⟩ := u.d.def_ 30 (d := dd_first_hit) rfl
      exact ⟨_, fd, F, He.glo_ok X G (u.d.fact 30 (f := .glo "first_hit") rfl)⟩
    d__law_near_right := by
      obtain ⟨fd, F⟩ := u.d.def_ 31 (d := dd__law_near_right) rfl
      exact ⟨_, fd, F, He.glo_ok X G (u.d.fact 31 (f := .glo "_law_near_right") rfl)⟩
    d__law_widest_right := by
      obtain ⟨fd, F⟩ := u.d.def_ 32 (d := dd__law_widest_right) rfl
      exact ⟨_, fd, F, He.glo_ok X G (u.d.fact 32 (f := .glo "_law_widest_right") rfl)⟩
    d_law := by
      obtain ⟨fd, F⟩ := u.d.def_ 33 (d := dd_law) rfl
      exact ⟨_, fd, F, He.glo_ok X G (u.d.fact 33 (f := .glo "law") rfl)⟩
    n_LookupError := He.free_ok X G (u.d.fact 34 (f := .free "LookupError") rfl)
    n_ValueError := He.free_ok X G (u.d.fact 35 (f := .free "ValueError") rfl)
    n_abs := He.free_ok X G (u.d.fact 36 (f := .free "abs") rfl)
    n_bool := He.free_ok X G (u.d.fact 37 (f := .free "bool") rfl)
    n_int := He.free_ok X G (u.d.fact 38 (f := .free "int") rfl)
    n_isinstance := He.free_ok X G (u.d.fact 39 (f := .free "isinstance") rfl)
    n_len := He.free_ok X G (u.d.fact 40 (f := .free "len") rfl)
    n_max := He.free_ok X G (u.d.fact 41 (f := .free "max") rfl)
    n_min := He.free_ok X G (u.d.fact 42 (f := .free "min") rfl)
    n_range := He.free_ok X G (u.d.fact 43 (f := .free "range") rfl)
    n_repr := He.free_ok X G (u.d.fact 44 (f := .free "repr") rfl)
    n_sum := He.free_ok X G (u.d.fact 45 (f := .free "sum") rfl)
    n_super := He.free_ok X G (u.d.fact 46 (f := .free "super") rfl)
    n_tuple := He.free_ok X G (u.d.fact 47 (f := .free "tuple") rfl)
    n_zip := He.free_ok X G (u.d.fact 48 (f := .free "zip") rfl)
    k_SMALL := GlobC.int (He.int_ok X G (u.d.fact 49 (f := .int "SMALL" 4) rfl))
    lim := u.s
    tnd := v.2.1
    l_place_in_parted := ⟨l "place_in_parted" (by decide), He.glo_ok X G (u.d.fact 21 (f := .glo "place_in_parted") rfl)⟩
    l__law_pair_right := ⟨l "_law_pair_right" (by decide), He.glo_ok X G (u.d.fact 26 (f := .glo "_law_pair_right") rfl)⟩
    l_place_in_hits := ⟨l "place_in_hits" (by decide), He.glo_ok X G (u.d.fact 29 (f := .glo "place_in_hits") rfl)⟩
    x_NoIndex := ownC_of (d := ini_NoIndex) (o ini_NoIndex (by simp [ini])).1 (o ini_NoIndex (by simp [ini])).2 t_NoIndex (He.glo_ok X G (u.d.fact 50 (f := .glo "NoIndex") rfl))
    e_NoIndex_NoIndex := ⟨_, _, He.glo_ok X G (u.d.fact 50 (f := .glo "NoIndex") rfl), He.glo_ok X G (u.d.fact 50 (f := .glo "NoIndex") rfl), of_decide_eq_true (u.d.fact 51 (f := .exm "NoIndex" "NoIndex" true) rfl)⟩
    g_NoIndex := ⟨_, He.glo_ok X G (u.d.fact 50 (f := .glo "NoIndex") rfl)⟩
    j_NoIndex_LookupError := isK_of (f := .blt "NoIndex" "LookupError" true) (isq _ (List.mem_of_getElem? (i := 0) rfl)) (He.glo_ok X G (u.d.fact 50 (f := .glo "NoIndex") rfl))
    j_NoIndex_ValueError := isK_of (f := .blt "NoIndex" "ValueError" false) (isq _ (List.mem_of_getElem? (i := 1) rfl)) (He.glo_ok X G (u.d.fact 50 (f := .glo "NoIndex") rfl))
    fv := fvk }

theorem law_at (T : Txt K mg) (B : BaseT K mg base) (KX : K.In base) (PS : Sup P mf) : FnAt P w K mg base 13 "law" ["_law_script"] sp_law := by
  have A__law_deck := at__law_deck (P := P) (w := w) (base := base) T B KX PS 
  have A__law_draw := at__law_draw (P := P) (w := w) (base := base) T B KX PS 
  have A__law_number := at__law_number (P := P) (w := w) (base := base) T B KX PS A__law_draw
  have A__law_line := at__law_line (P := P) (w := w) (base := base) T B KX PS A__law_draw A__law_number
  have A__law_pair := at__law_pair (P := P) (w := w) (base := base) T B KX PS A__law_draw A__law_line
  have A__law_far := at__law_far (P := P) (w := w) (base := base) T B KX PS A__law_draw A__law_number
  have A_difference := at_difference (P := P) (w := w) (base := base) T B KX PS 
  have A_first_from := at_first_from (P := P) (w := w) (base := base) T B KX PS 
  have A_parts_of := at_parts_of (P := P) (w := w) (base := base) T B KX PS A_difference A_first_from
  have A_first_turn := at_first_turn (P := P) (w := w) (base := base) T B KX PS 
  have A_next_turn := at_next_turn (P := P) (w := w) (base := base) T B KX PS 
  have A_value_at := at_value_at (P := P) (w := w) (base := base) T B KX PS 
  have A_sum_of_turn := at_sum_of_turn (P := P) (w := w) (base := base) T B KX PS A_value_at
  have A_sum_rows := at_sum_rows (P := P) (w := w) (base := base) T B KX PS A_first_turn A_next_turn A_sum_of_turn
  have A_sum_of := at_sum_of (P := P) (w := w) (base := base) T B KX PS A_sum_rows
  have A_count_in := at_count_in (P := P) (w := w) (base := base) T B KX PS A_sum_of
  have A_counts_of := at_counts_of (P := P) (w := w) (base := base) T B KX PS A_parts_of A_count_in
  have A_count_parted := at_count_parted (P := P) (w := w) (base := base) T B KX PS A_counts_of
  have A_is_whole := at_is_whole (P := P) (w := w) (base := base) T B KX PS 
  have A_is_between := at_is_between (P := P) (w := w) (base := base) T B KX PS A_is_whole
  have A_place_of := at_place_of (P := P) (w := w) (base := base) T B KX PS 
  have A_place_in_parted := at_place_in_parted (P := P) (w := w) (base := base) T B KX PS A_count_in A_place_of
  have A_parted_at := at_parted_at (P := P) (w := w) (base := base) T B KX PS A_counts_of A_is_between A_place_in_parted
  have A__law_place_right := at__law_place_right (P := P) (w := w) (base := base) T B KX PS A_parted_at A_value_at A_count_parted
  have A_first_parted := at_first_parted (P := P) (w := w) (base := base) T B KX PS A_counts_of A_place_in_parted
  have A__law_index_fails := at__law_index_fails (P := P) (w := w) (base := base) T B KX PS 
  have A__law_pair_right := at__law_pair_right (P := P) (w := w) (base := base) T B KX PS A_count_parted A__law_place_right A_first_parted A_parted_at A__law_index_fails
  have A_lines_of := at_lines_of (P := P) (w := w) (base := base) T B KX PS 
  have A_count_hits := at_count_hits (P := P) (w := w) (base := base) T B KX PS A_lines_of A_sum_of
  have A_place_in_hits := at_place_in_hits (P := P) (w := w) (base := base) T B KX PS A_count_hits A_place_of
  have A_first_hit := at_first_hit (P := P) (w := w) (base := base) T B KX PS A_count_hits A_place_in_hits
  have A__law_near_right := at__law_near_right (P := P) (w := w) (base := base) T B KX PS A__law_draw A_count_parted A_count_hits A_first_parted A_first_hit
  have A__law_widest_right := at__law_widest_right (P := P) (w := w) (base := base) T B KX PS A__law_pair A_count_parted A_first_parted A__law_draw A__law_place_right
  have A_law := at_law (P := P) (w := w) (base := base) T B KX PS A__law_deck A__law_pair A__law_far A__law_pair_right A__law_near_right A_first_parted A__law_widest_right
  exact A_law

end Lk10
open PySem PySem.W PySem.Calls PyProof.Rows
set_option maxHeartbeats 0 in

theorem PySem.Challenge.cw_numbertexts_k10_whole_parted_on_long_ran_holds : PySem.Challenge.rw_numbertexts_k10_whole_parted_on_long_ran.Holds := by
  w_on; o_law
  refine HandSHeadRun.head_any (r := OpenLaw.row PySem.Challenge.rw_numbertexts_k10_whole_parted_on_long_ran) (q := view (OpenLaw.row PySem.Challenge.rw_numbertexts_k10_whole_parted_on_long_ran).prog [44]) (H := Lk10.hk) (ob := Lk10.ob) (M := 5800) (loose := Lk10.loose) (d := HandSHeadRun.topDef (OpenLaw.row PySem.Challenge.rw_numbertexts_k10_whole_parted_on_long_ran).prog 44) (kwd := []) Lk10.ob_eq
    (by kernel_rfl) (fun s => by kernel_rfl) Lk10.run (by kernel_rfl) (by kernel_rfl) (by kernel_rfl) (by rfl) (by first | assumption | decide +kernel) (by decide +kernel) ⟨rfl, rfl, rfl, rfl, rfl, by decide +kernel⟩ ?hw ?hc
  case hw => w_witness2
  case hc =>
    refine Mn.walkT (l := PySem.Challenge.rw_numbertexts_k10_whole_parted_on_long_ran) (n := 63) (k := 13) (x := "_law_script") rfl (by decide) (by kernel_rfl) ⟨rfl, by decide, by decide⟩ ?F
    intro w mg fa h Y G hmg0
    obtain ⟨K, KX, c, lmk, ox, fvk, isq⟩ := Y
    have hmg : mg ("law" : PySem.Str) = some (.ref fa) := by
      have e : (HandSHeadRun.topDef (OpenLaw.row PySem.Challenge.rw_numbertexts_k10_whole_parted_on_long_ran).prog 44).name = ("law" : PySem.Str) := by kernel_rfl
      rw [← e]
      exact hmg0
    have T := Lk10.txt_of KX G c lmk ox fvk isq
    exact Mn.law_finT KX c.2.2 T.d_law hmg (fun _ _ _ _ _ _ us hl => match us, hl with | [_], _ => rfl) fun base KB B => Lk10.law_at (P := (PySem.Challenge.rw_numbertexts_k10_whole_parted_on_long_ran).prog) (w := w) (base := base) T B KB ⟨by kernel_rfl, by kernel_rfl⟩
