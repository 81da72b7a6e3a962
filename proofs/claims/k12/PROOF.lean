import PyProof.Rows.All
import Wide.All
import OpenK.AllK
import Wide.FinOn
import KE.KStateDown
import HandS.ForMost
import HandS.Wide
import HandS.WideBits
import HandS.ForExc
import HandS.Defaults
import HandS.HeadEnd
import PyProof.ReprRoads
import HandS.TupAny
import HandS.Star
import HandS.TupMul
import PyProof.LongRange
import HandS.Style
import HandS.NoneIn
import HandS.IsInst
import HandS.Head0
import HandS.Head1
import HandS.Head2
import HandS.HeadHook1
import HandS.HeadHook2
import HandS.Dict
import PyProof.P3In
import PyProof.StrLawsRepr
import PyProof.RulesMatch
import KE.BitLaws
import HandS.Iter
import HandS.Conv
import PyProof.Rows.StrDigits
import HandS.StrMore
import KE.GoesMore
import HandS.SetFor
import HandS.Strs
import PyProof.Rows.SortShellAny
import HandS.Replace
import HandS.IntHex
import KE.KIntText
import PySem.Challenge.RW_numbertexts_k12_number_texts_parsed

set_option Elab.async false
set_option linter.all false
set_option maxRecDepth 100000

/-! Mn0: defs whose callers are known to be inside no repr. -/
namespace Mn
open PySem PySem.Spec PyProof.Rows L2
/-- room, and no repr under way -/
structure RG (k : Nat) (A : Around) : Prop where
  r : Room k A
  g : A.guards = some []
theorem RG.mono {j k : Nat} {A : Around} (x : RG k A) (h : j ≤ k) : RG j A := ⟨x.r.mono h, x.g⟩
theorem RG.deeper {k : Nat} {A : Around} (x : RG (k + 1) A) (env : Env) : RG k (A.deeper env) := ⟨x.r.deeper env, x.g⟩
theorem RG.units {k : Nat} {A : Around} (x : RG k A) : A.units + 64 < cLine := x.r.units
/-- a def's promise to such callers -/
structure FnG (P : Program) (w : World) (K : PySem.W.Frag) (mg : Str → Option Value) (base : Heap) (C : CXT) (k : Nat) (f : Addr) (fd : FuncData) (ps : List Str) (sp : Sp) : Prop where
  len : ∀ vs H Q E, sp vs H Q E → vs.length = ps.length
  run : ∀ (A : Around) (outer : List Env) (s : Shared) (H : Hp) (args : Args) (us : List Value) (vs : List V) (Q : VK) (E : XK), RG k A → Env0 P w K mg base A outer s H → BindsTo s fd args (ps.zip us) → Vals vs us → sp vs H Q E →
    codeAny (model P w) A (.call (.ref f) args) (CR C outer P w H s Q E) s
theorem FnG.mono {P : Program} {w : World} {K : PySem.W.Frag} {mg : Str → Option Value} {base : Heap} {C : CXT} {j k : Nat} {f : Addr} {fd : FuncData} {ps : List Str} {sp : Sp} (F : FnG P w K mg base C j f fd ps sp) (h : j ≤ k) : FnG P w K mg base C k f fd ps sp :=
  ⟨F.len, fun A outer s H args us vs Q E hr => F.run A outer s H args us vs Q E (hr.mono h)⟩
section
variable {X : Cx} {C : CXT} {k : Nat} {f : Addr} {fd : FuncData} {ps : List Str} {sp : Sp} {dvs : List V} {ds : List Value} {E : XK} {x : Str} {p pos : Pos} {e : Expr} {es : List Expr} {t : L2.TA}
theorem runG {pins : List (Addr × Obj)} {σ : L2.St} {H : Hp} {s : Shared} {Q : VK} {us : List Value} {vs : List V} (F : FnG X.prog X.w X.K X.mg X.base C k f fd ps sp) (g : RG k X.A) (hb : Binds X.K fd ps ds) (hd : Vals dvs ds) (hx : Passes C X E) (I : Inv X pins σ H s)
    (r : Vals vs us) (h : sp (vs ++ dvs) H Q E) : wpAny (model X.prog X.w) X.A (call (.ref f) us) (EP X pins σ Q) X.xe s :=
  have r2 : Vals (vs ++ dvs) (us ++ ds) := r.append hd
  wpAny_call (codeAny_mono (F.run X.A X.stack s H ⟨us, []⟩ (us ++ ds) (vs ++ dvs) Q E g I.env0 (hb s us I.kIn (by rw [← r2.length]; exact F.len _ _ _ _ h)) r2 h) fun z s' hq => match z, hq with
    | .error e, hq => hx pins σ H s e s' I hq
    | .ok (.ret u), hq => I.after hq
    | .ok .next, hq => False.elim hq
    | .ok .brk, hq => False.elim hq
    | .ok .cont, hq => False.elim hq)
theorem pe_callG (F : FnG X.prog X.w X.K X.mg X.base C k f fd ps sp) (g : RG k X.A) (hg : Gl X x) (hm : X.mg x = some (.ref f)) (hk : PySem.W.keepIn X.K (.ref f) = true) (hb : Binds X.K fd ps ds) (hd : Vals dvs ds) (hx : Passes C X E) (ha : PA X (e :: es) t)
    (hdb : (x == ("__debug__" : Str)) = false) (he : starEach (e :: es) X.env = (false, eval e X.env) :: starEach es X.env) (hpl : (backTo pos (starEach es X.env)).any (·.1) = false) : PE X (.Call (.Name x p) (e :: es) [] pos) (tCall sp dvs E t) :=
  ⟨fun pins s σ H Q I h => wpAny_Call_Name_kw (ld_glob I hg hm (PySem.W.callWith_K (h₀ := X.base) I.ok.mod.kin hk (thn (ha.run pos pins s σ H _ I h) fun us s1 ⟨vs, H1, I1, r, q⟩ => ⟨I1.kIn, runG F g hb hd hx I1 r q⟩) he hpl) hdb)⟩
theorem pe_callG0 (F : FnG X.prog X.w X.K X.mg X.base C k f fd ps sp) (g : RG k X.A) (hg : Gl X x) (hm : X.mg x = some (.ref f)) (hk : PySem.W.keepIn X.K (.ref f) = true) (hb : Binds X.K fd ps ds) (hd : Vals dvs ds) (hx : Passes C X E)
    (hdb : (x == ("__debug__" : Str)) = false) : PE X (.Call (.Name x p) [] [] pos) (tCall sp dvs E tNil) :=
  ⟨fun pins s σ H Q I h => wpAny_Call_Name_kw (ld_glob I hg hm (PySem.W.callWith_K0 I.kIn hk (runG (us := []) F g hb hd hx I .nil h)) hdb)⟩
end
/-- the rule of a def -/
theorem fnG_of {C : CXT} {P : Program} {w : World} {K : PySem.W.Frag} {mg : Str → Option Value} {base : Heap} {k : Nat} {f : Addr} {name qual : Str} {params : Arguments} {body : List Stmt} {scope : Scope} {dV kV doc pm cdv ct oc : Value} {an od : Option Addr} {osl : Array (Option Value)} {N ps : List Str} {sp : Sp}
    (lk : K.lookup f = some ⟨oc, od, .func (PySem.W.fnOf name qual params body scope dV kV doc pm an cdv ct), osl⟩) (hcd : PySem.W.codeIn K cdv qual = true) (S : FnScope N ps scope) (hlen : ∀ vs H Q E, sp vs H Q E → vs.length = ps.length)
    (hb : ∀ (A : Around) (outer : List Env) (s : Shared) (H : Hp) (vs : List V) (Q : VK) (E : XK), RG k (A.deeper (envOfC qual scope s.heap.objs.size f cdv)) → sp vs H Q E →
      ∃ t, PSs (cxOf C P w K mg base N qual scope f cdv A outer s H E) body t ∧ t { nx := fun _ H' => Q .non H', rt := Q } (start N vs) H) : FnG P w K mg base C (k + 1) f (PySem.W.fnOf name qual params body scope dV kV doc pm an cdv ct) ps sp := by
  refine ⟨hlen, fun A outer s H args us vs Q E g e0 bd rv hsp => ?_⟩
  have kept : ∀ {b : Addr} {o : Obj}, base.get? b = some o → s.heap.get? b = some o := fun e => (e0.bs _ _ e).1
  have Kin : K.In s.heap := e0.mod.kin.keeps fun b o e => kept e
  refine codeAny_call_function g.r.depth (Kin _ _ lk) rfl S.co S.gen rfl (PySem.W.codeRec_of Kin hcd) (bd _ _ _ _ (wpAny_newFunctionEnv_cells S.kind (fun ⟨n, v⟩ hy => ?_) fun env he s1 x => ?_))
  · exact (S.par n (List.of_mem_zip hy).1).imp id fun q => ⟨q, PySem.W.cellsFrom_some _ _ _ (.inl q)⟩
  · cases he
    obtain ⟨t, pt, ht⟩ := hb A outer s H vs Q E (g.deeper _) hsp
    have I0 := inv_start (CX := C) (qual := qual) (f := f) (cd := cdv) (E := E) S g.r.hd e0 (hlen _ _ _ _ hsp) rv x
    refine ⟨(e0.mod.nolimit.keeps fun b o e => kept e).keeps x.toInCall.keep, codeAny_func (wpAny_mono (pt.run [] s1 (start N vs) H _ I0 ht) (fun fl z hz => ?_) fun e z hz => hz)⟩
    match fl, hz with
    | .ret u, ⟨v, σ', H', J, rv', q⟩ => exact ⟨v, H', J.os, J.bare, J.base, J.hok, rv', q⟩
    | .next, ⟨σ', H', J, q⟩ => exact ⟨V.non, H', J.os, J.bare, J.base, J.hok, rfl, q⟩
    | .brk, ⟨_, _, _, q⟩ => exact False.elim q
    | .cont, ⟨_, _, _, q⟩ => exact False.elim q
theorem callerG {k : Nat} (h : Room k callerA) : RG k callerA := ⟨h, rfl⟩
/-! ### a law's call -/
section
variable {P : Program} {w : World} {K : PySem.W.Frag} {mg mb : Str → Option Value} {C : CXT} {k : Nat} {fa a : Addr} {fd : FuncData} {x : Str} {sp : Sp} {s : Shared} {vs : List Value} {ns : List Int}
theorem law_from (KX : K.In s.heap) (hns : s.heap.Ns mainGlobals mg) (hb : s.heap.Ns builtinsNs mb) (hbb : ∀ x : Str, x ≠ "__name__" → mb x = bootBuiltins x) (hlim : s.heap.NoLimit) (hg : s.gens = #[]) (ha : s.heap.get? a = some { cls := .type "list", data := .seq vs.toArray }) (hr : Room k callerA)
    (F : ∀ base : Heap, K.In base → base.Ns mainGlobals mg → FnG P w K mg base C k fa fd [x] sp) (hbind : ∀ (s : Shared) (u : Value), BindsTo s fd ⟨[u], []⟩ [(x, u)]) (hsp : ∀ H : Hp, Only H → SqL K H a (ns.map V.int) → sp [.ref a] H (fun v _ => v = .bl true) fun _ _ _ => False) (hCX : ∀ H e s', C [] H s (fun _ _ _ => False) e s' → False)
    (H : Hp) (hO : Only H) (hS : SqL K H a (ns.map V.int)) (hok : HOk P w H s.heap) (hA : ∀ b, H b ≠ none → b = a) (hK : H a ≠ none → K.lookup a = none) :
    codeAny (model P w) callerA (.call (.ref fa) ⟨[.ref a], []⟩) (fun r z => r = .ok (.ret (.bool true)) ∧ OldK s.heap z.heap ∧ z.os = s.os ∧ AllBare z.gens) s := by
  have hid : ∀ {b : Addr} {o : Obj}, s.heap.get? b = some o → H b = none → (hidT s.heap H).get? b = some o := fun e n => hidT_get e n
  have is_a : ∀ {b : Addr} {u : HO}, H b = some u → b = a := fun {b u} q => hA b fun z => by rw [q] at z; cases z
  have noDict : ∀ {b : Addr} {o : Obj} {es : Array DictEntry} {ep : Nat}, s.heap.get? b = some o → o.data = .dict es ep → H b = none := fun {b o es ep} e d => by
    cases q : H b with
    | none => rfl
    | some u =>
      cases is_a q
      rw [ha] at e; cases e
      have d2 : Data.seq vs.toArray _ = Data.dict es ep := d
      cases d2
  have ns2 : ∀ {b : Addr} {m : Str → Option Value}, s.heap.Ns b m → (hidT s.heap H).Ns b m := fun ⟨o, es, ep, e, d, r⟩ => ⟨o, es, ep, hid e (noDict e d), d, r⟩
  have Kin : K.In (hidT s.heap H) := fun b o e => hid (KX b o e) (by
    cases q : H b with
    | none => rfl
    | some u =>
      cases is_a q
      rw [hK (fun z => by rw [q] at z; cases z)] at e; cases e)
  have M : Mod K mg (hidT s.heap H) := ⟨Kin, ns2 hns, ⟨mb, ns2 hb, hbb⟩, hlim.imp fun mc h => ⟨ns2 h.1, h.2⟩⟩
  have e0 : Env0 P w K mg (hidT s.heap H) callerA [] s H := ⟨rfl, M, fun b o e => of_hidT e, Nat.le_of_eq (hidT_size _ _), trivial, fun b z => (List.not_mem_nil (show b ∈ ([] : List Addr) from z)).elim, hok, .of_eq hg⟩
  refine codeAny_mono ((F _ Kin (ns2 hns)).run callerA [] s H ⟨[.ref a], []⟩ [.ref a] [.ref a] _ _ (callerG hr) e0 (hbind s (.ref a)) (.cons rfl .nil) (hsp H hO hS)) fun r z h => ?_
  match r, h with
  | .error e, h => exact (hCX H e z h).elim
  | .ok .next, h => exact False.elim h
  | .ok .brk, h => exact False.elim h
  | .ok .cont, h => exact False.elim h
  | .ok (.ret u), ⟨v, H', os, bare, un, hok2, rel, q⟩ =>
    have qv : v = .bl true := q
    subst qv
    cases (show u = Value.bool true from rel)
    refine ⟨rfl, OldK.of_keep fun b o e => ?_, os, bare⟩
    rcases hO b with q | ⟨ob, xs, q⟩
    · exact un.keep b o e q (fun z => List.not_mem_nil (show b ∈ ([] : List Addr) from z)) (fun z => List.not_mem_nil z)
    · obtain ⟨e1, _⟩ := hok b _ q
      rw [e] at e1
      cases e1
      exact (hok2 b _ (un.frzs b _ _ q)).1
theorem lawG (KX : K.In s.heap) (hns : s.heap.Ns mainGlobals mg) (hb : s.heap.Ns builtinsNs mb) (hbb : ∀ x : Str, x ≠ "__name__" → mb x = bootBuiltins x) (hlim : s.heap.NoLimit) (hg : s.gens = #[]) (ha : s.heap.get? a = some { cls := .type "list", data := .seq vs.toArray })
    (hi : IntsAre vs ns) (hl : ns.length ≤ sizeLine) (hr : Room k callerA) (F : ∀ base : Heap, K.In base → base.Ns mainGlobals mg → FnG P w K mg base C k fa fd [x] sp) (hbind : ∀ (s : Shared) (u : Value), BindsTo s fd ⟨[u], []⟩ [(x, u)])
    (hsp : ∀ H : Hp, Only H → SqL K H a (ns.map V.int) → sp [.ref a] H (fun v _ => v = .bl true) fun _ _ _ => False) (hCX : ∀ H e s', C [] H s (fun _ _ _ => False) e s' → False) :
    codeAny (model P w) callerA (.call (.ref fa) ⟨[.ref a], []⟩) (fun r z => r = .ok (.ret (.bool true)) ∧ OldK s.heap z.heap ∧ z.os = s.os ∧ AllBare z.gens) s := by
  have rv := vals_ints hi
  cases hk : K.lookup a with
  | some o =>
    have e := KX a o hk
    rw [ha] at e; cases e
    exact law_from KX hns hb hbb hlim hg ha hr F hbind hsp hCX (fun _ => none) (fun _ => .inl rfl) (.inr ⟨_, vs.toArray, _, hk, rfl, rfl, rfl, by rw [List.size_toArray, hi.length]; exact hl, by simpa using rv⟩) (fun b u z => nomatch (show (none : Option HO) = some u from z)) (fun b z => (z rfl).elim) fun z => (z rfl).elim
  | none =>
    let H : Hp := fun b => if b = a then some (.frz { cls := .type "list", data := .seq vs.toArray } (.lst (ns.map V.int))) else none
    have Ha : H a = some (.frz { cls := .type "list", data := .seq vs.toArray } (.lst (ns.map V.int))) := if_pos rfl
    have Hn : ∀ b, b ≠ a → H b = none := fun b n => if_neg n
    refine law_from KX hns hb hbb hlim hg ha hr F hbind hsp hCX H (fun b => ?_) (.inl (.inr ⟨_, Ha⟩)) (fun b u z => ?_) (fun b z => ?_) fun _ => hk
    · exact if h : b = a then .inr (by rw [h]; exact ⟨_, _, Ha⟩) else .inl (Hn b h)
    · by_cases h : b = a
      · subst h
        rw [Ha] at z; cases z
        exact ⟨ha, by rw [List.length_map]; exact hl, vs, _, rv, ha⟩
      · rw [Hn b h] at z; cases z
    · exact Classical.byContradiction fun h => z (Hn b h)
end
theorem walkG {l : PySem.W.OpenLaw} {n k : Nat} {q : Program} {loose : List Str} {XP : (Str → Option Value) → Heap → Prop} {YP : World → Heap → Prop} {d : DefRec} {C : CXT} {x : Str} (hn : l.most = some n) (hn2 : n ≤ sizeLine) (hdf : d.params.defaults = []) (hr : Room k callerA)
    (F : ∀ (w : World) (mg : Str → Option Value) (fa : Addr) (h : Heap), YP w h → h.Ns mainGlobals mg → mg d.name = some (.ref fa) → ∃ (K : PySem.W.Frag) (fd : FuncData) (sp : Sp), K.In h ∧ (∀ (s : Shared) (u : Value), BindsTo s fd ⟨[u], []⟩ [(x, u)]) ∧
      (∀ (H : Hp) (a : Addr) (ns : List Int), ns.length ≤ n → Only H → SqL K H a (ns.map V.int) → sp [.ref a] H (fun v _ => v = .bl true) fun _ _ _ => False) ∧ ∀ base : Heap, K.In base → base.Ns mainGlobals mg → FnG l.prog w K mg base C k fa fd [x] sp)
    (hC : ∀ (H : Hp) (s : Shared) (e : Value) (s' : Shared), C [] H s (fun _ _ _ => False) e s' → False) : PySem.W.WalkO q loose XP YP l.row.toRowW d [] (fun f vs => PySem.call f vs) :=
  Att.attach_call hn hdf fun w s₀ s₁ mg mb fa o pm cd doc a vs ns G Y ho hd hcd hmg hobj hints hlen hg => by
    obtain ⟨K, fd, sp, KX, hb, hsp, hF⟩ := F w mg fa _ Y G.T.g hmg
    exact lawG KX G.T.g G.T.b G.T.builtins G.T.nolimit hg hobj hints (Nat.le_trans hlen hn2) hr hF hb (fun H hO hS => hsp H a ns hlen hO hS) fun H e z => hC H s₁ e z
end Mn

/-! Mn: clean data over the hand layer. -/
namespace Mn
open PySem PySem.Spec PyProof.Rows L2

/-- what is there, and then F -/
@[irreducible] def oth {α : Type} (o : Option α) (F : α → Prop) : Prop := match o with | some x => F x | none => False
theorem oth_some {α : Type} {o : Option α} {x : α} {F : α → Prop} (h : o = some x) (q : F x) : oth o F := by
  unfold oth
  subst h
  exact q
theorem oth_of {α : Type} {o : Option α} {F : α → Prop} (h : oth o F) : ∃ x, o = some x ∧ F x := by
  unfold oth at h
  cases o with
  | none => exact h.elim
  | some x => exact ⟨x, rfl, h⟩
/-- clean data: immutable things are values; ref: a mutable list -/
inductive D where
  | non | bl (b : Bool) | int (i : Int) | str (s : Str) | tup (xs : List D) | lst (xs : List D) | ref (a : Addr) | dct (ks : List Key) (vs : List D) | frz (xs : List D)
abbrev Ms := Addr → Prop
abbrev CH := Addr → Option (List D)
/-- a list that the law was handed -/
def FrzL (K : PySem.W.Frag) (H : Hp) (a : Addr) (xs : List V) : Prop := (∃ o, H a = some (.frz o (.lst xs))) ∨
  ∃ (o : Obj) (its : Array Value) (n : Nat), K.lookup a = some o ∧ o.cls = .type "list" ∧ o.dict = none ∧ o.data = .seq its n ∧ its.size ≤ sizeLine ∧ Vals xs its.toList
theorem FrzL.sq {K : PySem.W.Frag} {H : Hp} {a : Addr} {xs : List V} (h : FrzL K H a xs) : SqL K H a xs := by
  rcases h with ⟨o, h⟩ | h
  · exact .inl (.inr ⟨o, h⟩)
  · exact .inr h
mutual
def Rep (K : PySem.W.Frag) (H : Hp) (m : Ms) : D → V → Prop
  | .non, v => v = .non
  | .bl b, v => v = .bl b
  | .int i, v => v = .int i
  | .str s, v => v = .str s
  | .tup xs, v => ∃ p vs, v = .ref p ∧ SqT K H p vs ∧ RepL K H m xs vs
  | .lst xs, v => ∃ p vs, v = .ref p ∧ ¬ m p ∧ H p = some (.lst vs) ∧ RepL K H m xs vs
  | .ref a, v => v = .ref a
  | .dct ks ds, v => ∃ p vs, v = .ref p ∧ ¬ m p ∧ H p = some (.dK (ks.zip vs)) ∧ ks.length = vs.length ∧ RepL K H m ds vs
  | .frz xs, v => ∃ p vs, v = .ref p ∧ FrzL K H p vs ∧ RepL K H m xs vs
def RepL (K : PySem.W.Frag) (H : Hp) (m : Ms) : List D → List V → Prop
  | [], vs => vs = []
  | d :: ds, vs => ∃ v r, vs = v :: r ∧ Rep K H m d v ∧ RepL K H m ds r
end
/-- one step of the world, as far as values see it -/
structure Stp (H : Hp) (m : Ms) (H' : Hp) (m' : Ms) : Prop where
  keep : ∀ p o, H p = some o → ¬ m p → H' p = some o
  grow : ∀ p, m' p → m p ∨ H p = none
theorem Stp.refl {H : Hp} {m : Ms} : Stp H m H m := ⟨fun _ _ h _ => h, fun _ h => .inl h⟩
theorem Stp.trans {H H1 H2 : Hp} {m m1 m2 : Ms} (a : Stp H m H1 m1) (b : Stp H1 m1 H2 m2) : Stp H m H2 m2 := by
  refine ⟨fun p o h n => ?_, fun p h => ?_⟩
  · refine b.keep p o (a.keep p o h n) fun z => ?_
    rcases a.grow p z with y | y
    · exact n y
    · rw [h] at y; cases y
  · rcases b.grow p h with y | y
    · exact a.grow p y
    · by_cases hm : m p
      · exact .inl hm
      · cases e : H p with
        | none => exact .inr rfl
        | some o => rw [a.keep p o e hm] at y; cases y
/-- mutable things are tracked lists -/
def MutOk (H : Hp) (m : Ms) : Prop := ∀ a, m a → ∃ vs, H a = some (.lst vs)
theorem sqt_step {K : PySem.W.Frag} {H H' : Hp} {m m' : Ms} {p : Addr} {vs : List V} (mo : MutOk H m) (s : Stp H m H' m') (h : SqT K H p vs) : SqT K H' p vs := by
  rcases h with (h | ⟨o, h⟩) | h
  · exact .inl (.inl (s.keep _ _ h fun z => by obtain ⟨w, e⟩ := mo _ z; rw [h] at e; cases e))
  · exact .inl (.inr ⟨o, s.keep _ _ h fun z => by obtain ⟨w, e⟩ := mo _ z; rw [h] at e; cases e⟩)
  · exact .inr h
theorem ls_step {H H' : Hp} {m m' : Ms} {p : Addr} {u : HO} (s : Stp H m H' m') (n : ¬ m p) (h : H p = some u) : H' p = some u ∧ ¬ m' p := by
  refine ⟨s.keep _ _ h n, fun z => ?_⟩
  rcases s.grow p z with y | y
  · exact n y
  · rw [h] at y; cases y
mutual
theorem Rep.mono {K : PySem.W.Frag} {H H' : Hp} {m m' : Ms} (mo : MutOk H m) (s : Stp H m H' m') : ∀ (d : D) (v : V), Rep K H m d v → Rep K H' m' d v
  | .non, v, h => by unfold Rep at h ⊢; exact h
  | .bl _, v, h => by unfold Rep at h ⊢; exact h
  | .int _, v, h => by unfold Rep at h ⊢; exact h
  | .str _, v, h => by unfold Rep at h ⊢; exact h
  | .tup xs, v, h => by
    unfold Rep at h ⊢
    obtain ⟨p, vs, e, q, r⟩ := h
    exact ⟨p, vs, e, sqt_step mo s q, RepL.mono mo s xs vs r⟩
  | .lst xs, v, h => by
    unfold Rep at h ⊢
    obtain ⟨p, vs, e, n, q, r⟩ := h
    obtain ⟨q', n'⟩ := ls_step s n q
    exact ⟨p, vs, e, n', q', RepL.mono mo s xs vs r⟩
  | .ref _, v, h => by unfold Rep at h ⊢; exact h
  | .dct ks ds, v, h => by
    unfold Rep at h ⊢
    obtain ⟨p, vs, e, n, q, l, r⟩ := h
    refine ⟨p, vs, e, fun z => ?_, s.keep _ _ q n, l, RepL.mono mo s ds vs r⟩
    rcases s.grow p z with y | y
    · exact n y
    · rw [q] at y; cases y
  | .frz xs, v, h => by
    unfold Rep at h ⊢
    obtain ⟨p, vs, e, q, r⟩ := h
    refine ⟨p, vs, e, ?_, RepL.mono mo s xs vs r⟩
    rcases q with ⟨o, q⟩ | q
    · exact .inl ⟨o, s.keep _ _ q fun z => by obtain ⟨w, e⟩ := mo _ z; rw [q] at e; cases e⟩
    · exact .inr q
theorem RepL.mono {K : PySem.W.Frag} {H H' : Hp} {m m' : Ms} (mo : MutOk H m) (s : Stp H m H' m') : ∀ (ds : List D) (vs : List V), RepL K H m ds vs → RepL K H' m' ds vs
  | [], vs, h => by unfold RepL at h ⊢; exact h
  | d :: ds, vs, h => by
    unfold RepL at h ⊢
    obtain ⟨v, r, e, h1, h2⟩ := h
    exact ⟨v, r, e, Rep.mono mo s d v h1, RepL.mono mo s ds r h2⟩
end
theorem RepL.length {K : PySem.W.Frag} {H : Hp} {m : Ms} : ∀ {ds : List D} {vs : List V}, RepL K H m ds vs → ds.length = vs.length
  | [], vs, h => by unfold RepL at h; subst h; rfl
  | d :: ds, vs, h => by
    unfold RepL at h
    obtain ⟨v, r, e, _, h2⟩ := h
    subst e
    rw [List.length_cons, List.length_cons, RepL.length h2]
theorem RepL.get {K : PySem.W.Frag} {H : Hp} {m : Ms} : ∀ {ds : List D} {vs : List V} {i : Nat} {d : D}, RepL K H m ds vs → ds[i]? = some d → ∃ v, vs[i]? = some v ∧ Rep K H m d v
  | [], vs, i, d, h, e => by simp at e
  | d :: ds, vs, 0, d', h, e => by
    unfold RepL at h
    obtain ⟨v, r, rfl, h1, _⟩ := h
    simp at e; subst e
    exact ⟨v, rfl, h1⟩
  | d :: ds, vs, i + 1, d', h, e => by
    unfold RepL at h
    obtain ⟨v, r, rfl, _, h2⟩ := h
    obtain ⟨w, e1, e2⟩ := RepL.get (i := i) h2 (by simpa using e)
    exact ⟨w, by simpa using e1, e2⟩
theorem RepL.append {K : PySem.W.Frag} {H : Hp} {m : Ms} : ∀ {ds es : List D} {vs ws : List V}, RepL K H m ds vs → RepL K H m es ws → RepL K H m (ds ++ es) (vs ++ ws)
  | [], es, vs, ws, h, g => by unfold RepL at h; subst h; exact g
  | d :: ds, es, vs, ws, h, g => by
    unfold RepL at h
    obtain ⟨v, r, rfl, h1, h2⟩ := h
    show RepL K H m (d :: (ds ++ es)) (v :: (r ++ ws))
    unfold RepL
    exact ⟨v, _, rfl, h1, RepL.append h2 g⟩
theorem RepL.one {K : PySem.W.Frag} {H : Hp} {m : Ms} {d : D} {v : V} (h : Rep K H m d v) : RepL K H m [d] [v] := by
  unfold RepL; exact ⟨v, [], rfl, h, by unfold RepL; rfl⟩
theorem RepL.set {K : PySem.W.Frag} {H : Hp} {m : Ms} {d : D} {v : V} (h : Rep K H m d v) : ∀ {ds : List D} {vs : List V} (i : Nat), RepL K H m ds vs → RepL K H m (ds.set i d) (vs.set i v)
  | [], vs, i, g => by unfold RepL at g; subst g; simpa using (show RepL K H m [] [] by unfold RepL; rfl)
  | d' :: ds, vs, 0, g => by
    unfold RepL at g
    obtain ⟨w, r, rfl, _, h2⟩ := g
    show RepL K H m (d :: ds) (v :: r)
    unfold RepL
    exact ⟨v, r, rfl, h, h2⟩
  | d' :: ds, vs, i + 1, g => by
    unfold RepL at g
    obtain ⟨w, r, rfl, h1, h2⟩ := g
    show RepL K H m (d' :: ds.set i d) (w :: r.set i v)
    unfold RepL
    exact ⟨w, _, rfl, h1, RepL.set h i h2⟩
theorem RepL.drop {K : PySem.W.Frag} {H : Hp} {m : Ms} : ∀ {ds : List D} {vs : List V} (n : Nat), RepL K H m ds vs → RepL K H m (ds.drop n) (vs.drop n)
  | ds, vs, 0, h => h
  | [], vs, n + 1, h => by unfold RepL at h; subst h; simpa using (show RepL K H m [] [] by unfold RepL; rfl)
  | d :: ds, vs, n + 1, h => by
    unfold RepL at h
    obtain ⟨v, r, rfl, _, h2⟩ := h
    exact RepL.drop n h2
theorem RepL.take {K : PySem.W.Frag} {H : Hp} {m : Ms} : ∀ {ds : List D} {vs : List V} (n : Nat), RepL K H m ds vs → RepL K H m (ds.take n) (vs.take n)
  | ds, vs, 0, h => by simpa using (show RepL K H m [] [] by unfold RepL; rfl)
  | [], vs, n + 1, h => by unfold RepL at h; subst h; simpa using (show RepL K H m [] [] by unfold RepL; rfl)
  | d :: ds, vs, n + 1, h => by
    unfold RepL at h
    obtain ⟨v, r, rfl, h1, h2⟩ := h
    show RepL K H m (d :: ds.take n) (v :: r.take n)
    unfold RepL
    exact ⟨v, _, rfl, h1, RepL.take n h2⟩
theorem RepL.reverse {K : PySem.W.Frag} {H : Hp} {m : Ms} : ∀ {ds : List D} {vs : List V}, RepL K H m ds vs → RepL K H m ds.reverse vs.reverse
  | [], vs, h => by unfold RepL at h; subst h; simpa using (show RepL K H m [] [] by unfold RepL; rfl)
  | d :: ds, vs, h => by
    unfold RepL at h
    obtain ⟨v, r, rfl, h1, h2⟩ := h
    rw [List.reverse_cons, List.reverse_cons]
    exact RepL.append (RepL.reverse h2) (RepL.one h1)
theorem RepL.nil {K : PySem.W.Frag} {H : Hp} {m : Ms} : RepL K H m [] [] := by unfold RepL; rfl
theorem RepL.cons {K : PySem.W.Frag} {H : Hp} {m : Ms} {d : D} {ds : List D} {v : V} {vs : List V} (h : Rep K H m d v) (g : RepL K H m ds vs) : RepL K H m (d :: ds) (v :: vs) := by unfold RepL; exact ⟨v, vs, rfl, h, g⟩

/-- the heap's part -/
structure Wd (K : PySem.W.Frag) (H : Hp) (hc : CH) (m : Ms) : Prop where
  mu : MutOk H m
  hm : ∀ a ds, hc a = some ds → m a
  heap : ∀ a ds, hc a = some ds → ∃ vs, H a = some (.lst vs) ∧ RepL K H m ds vs
/-- a def's entry -/
structure En where
  H : Hp
  hc : CH
  m : Ms
/-- how the world lies to the entry -/
structure Ex (K : PySem.W.Frag) (en : En) (H : Hp) (hc : CH) (m : Ms) : Prop extends Wd K H hc m where
  emut : MutOk en.H en.m
  ehm : ∀ a ds, en.hc a = some ds → en.m a
  keep : ∀ p o, en.H p = some o → en.hc p = none → H p = some o
  grow : ∀ p, m p → en.m p ∨ en.H p = none
  hold : ∀ p, en.m p → en.hc p = none → m p
  hgrow : ∀ p ds, hc p = some ds → en.hc p ≠ none ∨ en.H p = none
  live : ∀ p o, en.H p = some o → H p ≠ none
theorem Ex.refl {K : PySem.W.Frag} {H : Hp} {hc : CH} {m : Ms} (w : Wd K H hc m) : Ex K ⟨H, hc, m⟩ H hc m :=
  ⟨w, w.mu, w.hm, fun _ _ h _ => h, fun _ h => .inl h, fun _ h _ => h, fun p ds h => .inl (by show hc p ≠ none; rw [h]; simp), fun p o h => by have h' : H p = some o := h; rw [h']; simp⟩
/-- a callee's world, seen from here -/
theorem Ex.trans {K : PySem.W.Frag} {en : En} {H H' : Hp} {hc hc' : CH} {m m' : Ms} (a : Ex K en H hc m) (b : Ex K ⟨H, hc, m⟩ H' hc' m') : Ex K en H' hc' m' := by
  have nh : ∀ p o, en.H p = some o → en.hc p = none → hc p = none := fun p o h n => by
    cases e : hc p with
    | none => rfl
    | some ds =>
      rcases a.hgrow p ds e with y | y
      · exact absurd n y
      · rw [h] at y; cases y
  refine ⟨b.toWd, a.emut, a.ehm, fun p o h n => ?_, fun p h => ?_, fun p h n => ?_, fun p ds h => ?_, fun p o h => ?_⟩
  · exact b.keep p o (a.keep p o h n) (nh p o h n)
  · rcases b.grow p h with y | y
    · exact a.grow p y
    · cases e : en.H p with
      | none => exact .inr rfl
      | some o =>
        cases e2 : en.hc p with
        | none => have := a.keep p o e e2; have y' : H p = none := y; rw [this] at y'; cases y'
        | some ds => exact .inl (a.ehm p ds e2)
  · refine b.hold p (a.hold p h n) ?_
    obtain ⟨vs, e⟩ := a.emut p h
    exact nh p _ e n
  · rcases b.hgrow p ds h with y | y
    · cases e : hc p with
      | none => exact absurd e y
      | some ds' => exact a.hgrow p ds' e
    · cases e : en.H p with
      | none => exact .inr rfl
      | some o =>
        cases e2 : en.hc p with
        | none => have := a.keep p o e e2; have y' : H p = none := y; rw [this] at y'; cases y'
        | some ds => exact .inl (by simp)
  · cases e : H p with
    | none => exact absurd e (a.live p o h)
    | some u => exact b.live p u e
theorem Ex.stp {K : PySem.W.Frag} {en : En} {H : Hp} {hc : CH} {m : Ms} (a : Ex K en H hc m) : Stp en.H en.m H m := by
  refine ⟨fun p o h n => a.keep p o h ?_, a.grow⟩
  cases e : en.hc p with
  | none => rfl
  | some ds => exact absurd (a.ehm p ds e) n

/-- a slot: nothing known, a value, a list that this slot alone holds -/
inductive Sl where
  | un | val (d : D) | own (ds : List D)
/-- the state of a def's body -/
structure Rs (K : PySem.W.Frag) (en : En) (σ : L2.St) (H : Hp) (sc : List Sl) (hc : CH) (m : Ms) : Prop extends Ex K en H hc m where
  slot : ∀ (i : Nat) (d : D), sc[i]? = some (Sl.val d) → ∃ v, σ[i]? = some (some v) ∧ Rep K H m d v
  own : ∀ (i : Nat) (ds : List D), sc[i]? = some (Sl.own ds) → ∃ (p : Addr) (vs : List V), σ[i]? = some (some (V.ref p)) ∧ m p ∧ en.H p = none ∧ hc p = none ∧ H p = some (.lst vs) ∧ RepL K H m ds vs
  sep : ∀ (i j : Nat) (ds es : List D) (p : Addr), sc[i]? = some (Sl.own ds) → sc[j]? = some (Sl.own es) → σ[i]? = some (some (V.ref p)) → σ[j]? = some (some (V.ref p)) → i = j
  len : sc.length = σ.length
end Mn

namespace Mn
open PySem PySem.Spec PyProof.Rows L2

/-! ### steps of the state -/
theorem Stp.same {H H' : Hp} {m : Ms} (h : Same H H') : Stp H m H' m := ⟨fun p o e _ => h p o e, fun _ h => .inl h⟩
theorem Wd.same {K : PySem.W.Frag} {H H' : Hp} {hc : CH} {m : Ms} (w : Wd K H hc m) (h : Same H H') : Wd K H' hc m :=
  ⟨fun a z => let ⟨vs, e⟩ := w.mu a z; ⟨vs, h _ _ e⟩, w.hm, fun a ds e => let ⟨vs, e1, r⟩ := w.heap a ds e; ⟨vs, h _ _ e1, RepL.mono w.mu (.same h) _ _ r⟩⟩
theorem Ex.same {K : PySem.W.Frag} {H H' : Hp} {hc : CH} {m : Ms} (w : Wd K H hc m) (h : Same H H') : Ex K ⟨H, hc, m⟩ H' hc m :=
  ⟨w.same h, w.mu, w.hm, fun p o e _ => h p o e, fun _ h => .inl h, fun _ h _ => h, fun p ds e => .inl (by show hc p ≠ none; rw [e]; simp), fun p o e => by rw [h p o e]; simp⟩
theorem Rs.call {K : PySem.W.Frag} {en : En} {σ : L2.St} {H H' : Hp} {sc : List Sl} {hc hc' : CH} {m m' : Ms} (r : Rs K en σ H sc hc m) (x : Ex K ⟨H, hc, m⟩ H' hc' m') : Rs K en σ H' sc hc' m' := by
  have st := x.stp
  refine ⟨r.toEx.trans x, fun i d e => ?_, fun i ds e => ?_, r.sep, r.len⟩
  · obtain ⟨v, e1, q⟩ := r.slot i d e
    exact ⟨v, e1, Rep.mono r.mu st d v q⟩
  · obtain ⟨p, vs, e1, mp, ep, hp, eH, q⟩ := r.own i ds e
    refine ⟨p, vs, e1, x.hold p mp hp, ep, ?_, x.keep p _ eH hp, RepL.mono r.mu st _ _ q⟩
    cases e2 : hc' p with
    | none => rfl
    | some es =>
      rcases x.hgrow p es e2 with y | y
      · exact absurd hp y
      · have y' : H p = none := y
        rw [eH] at y'; cases y'
theorem Rs.same {K : PySem.W.Frag} {en : En} {σ : L2.St} {H H' : Hp} {sc : List Sl} {hc : CH} {m : Ms} (r : Rs K en σ H sc hc m) (h : Same H H') : Rs K en σ H' sc hc m := r.call (Ex.same r.toWd h)

/-- an exception in clean words: its class by the global name, its fields -/
structure Exn where
  cls : Str
  fs : List (Str × D)
abbrev XP := Exn → List Sl → CH → Prop
def RepX (X : Cx) (H : Hp) (m : Ms) (x : Exn) (cls : Value) (d : Option Addr) : Prop :=
  X.mg x.cls = some cls ∧ ((x.fs = [] ∧ d = none) ∨ ∃ dx fs, d = some dx ∧ H dx = some (.xd fs) ∧ fs.map (·.1) = x.fs.map (·.1) ∧ RepL X.K H m (x.fs.map (·.2)) (fs.map (·.2)))
def XOk (X : Cx) (W : WX) (en : En) (E : XP) : Prop := ∀ x sc hc, E x sc hc → ∀ cls d σ H m, Rs X.K en σ H sc hc m → RepX X H m x cls d → W cls d σ H

/-! ### judgements -/
abbrev CEx := XP → List Sl → CH → (D → CH → Prop) → Prop
abbrev CTx := XP → List Sl → CH → (Bool → CH → Prop) → Prop
abbrev CAx := XP → List Sl → CH → (List D → CH → Prop) → Prop
def RepW (K : PySem.W.Frag) (H : Hp) (m : Ms) : D → V → Prop
  | .lst ds, v => ∃ p vs, v = .ref p ∧ H p = some (.lst vs) ∧ RepL K H m ds vs
  | d, v => Rep K H m d v
theorem Rep.w {K : PySem.W.Frag} {H : Hp} {m : Ms} : ∀ {d : D} {v : V}, Rep K H m d v → RepW K H m d v
  | .non, _, h => h
  | .bl _, _, h => h
  | .int _, _, h => h
  | .str _, _, h => h
  | .tup _, _, h => h
  | .lst _, _, h => by
    unfold Rep at h
    obtain ⟨p, vs, e, _, q, r⟩ := h
    exact ⟨p, vs, e, q, r⟩
  | .ref _, _, h => h
  | .dct _ _, _, h => h
  | .frz _, _, h => h
/-- a value, or the list that a slot alone holds -/
def RepB (K : PySem.W.Frag) (σ : L2.St) (sc : List Sl) (H : Hp) (m : Ms) (d : D) (v : V) : Prop :=
  Rep K H m d v ∨ ∃ (i : Nat) (ds : List D), sc[i]? = some (Sl.own ds) ∧ d = .lst ds ∧ σ[i]? = some (some v)
theorem RepB.w {K : PySem.W.Frag} {en : En} {σ : L2.St} {sc : List Sl} {H : Hp} {hc : CH} {m : Ms} {d : D} {v : V} (r : Rs K en σ H sc hc m) (h : RepB K σ sc H m d v) : RepW K H m d v := by
  rcases h with h | ⟨i, ds, e1, rfl, e2⟩
  · exact h.w
  · obtain ⟨p, vs, e3, _, _, _, e4, q⟩ := r.own i ds e1
    rw [e2] at e3
    cases e3
    exact ⟨p, vs, rfl, e4, q⟩
theorem RepB.mono {K : PySem.W.Frag} {en : En} {σ : L2.St} {sc : List Sl} {H H' : Hp} {hc : CH} {m m' : Ms} {d : D} {v : V} (r : Rs K en σ H sc hc m) (s : Stp H m H' m') (h : RepB K σ sc H m d v) : RepB K σ sc H' m' d v := by
  rcases h with h | h
  · exact .inl (Rep.mono r.mu s d v h)
  · exact .inr h
def LE (X : Cx) (W : WX) (c : CEx) : TE := fun σ H Q => ∃ en sc hc m E P, Rs X.K en σ H sc hc m ∧ c E sc hc P ∧ XOk X W en E ∧
  ∀ d hc', P d hc' → ∀ v H' m', Ex X.K ⟨H, hc, m⟩ H' hc' m' → Rep X.K H' m' d v → Q v H'
def LB (X : Cx) (W : WX) (c : CEx) : TE := fun σ H Q => ∃ en sc hc m E P, Rs X.K en σ H sc hc m ∧ c E sc hc P ∧ XOk X W en E ∧
  ∀ d hc', P d hc' → ∀ v H' m', Ex X.K ⟨H, hc, m⟩ H' hc' m' → RepB X.K σ sc H' m' d v → Q v H'
def LT (X : Cx) (W : WX) (c : CTx) : TT := fun σ H Q => ∃ en sc hc m E P, Rs X.K en σ H sc hc m ∧ c E sc hc P ∧ XOk X W en E ∧
  ∀ b hc', P b hc' → ∀ H' m', Ex X.K ⟨H, hc, m⟩ H' hc' m' → Q b H'
def LA (X : Cx) (W : WX) (c : CAx) : TA := fun σ H Q => ∃ en sc hc m E P, Rs X.K en σ H sc hc m ∧ c E sc hc P ∧ XOk X W en E ∧
  ∀ ds hc', P ds hc' → ∀ vs H' m', Ex X.K ⟨H, hc, m⟩ H' hc' m' → RepL X.K H' m' ds vs → Q vs H'
structure CE (X : Cx) (W : WX) (e : Expr) (c : CEx) : Prop where
  p : PE X e (LE X W c)
structure CB (X : Cx) (W : WX) (e : Expr) (c : CEx) : Prop where
  p : PE X e (LB X W c)
structure CT (X : Cx) (W : WX) (e : Expr) (c : CTx) : Prop where
  p : PT X e (LT X W c)
structure CA (X : Cx) (W : WX) (es : List Expr) (c : CAx) : Prop where
  p : PA X es (LA X W c)
theorem pe_wk {X : Cx} {e : Expr} {t t' : TE} (h : PE X e t) (g : ∀ σ H Q, t' σ H Q → t σ H Q) : PE X e t' := ⟨fun pins s σ H Q I q => h.run pins s σ H Q I (g σ H Q q)⟩
theorem pt_wk {X : Cx} {e : Expr} {t t' : TT} (h : PT X e t) (g : ∀ σ H Q, t' σ H Q → t σ H Q) : PT X e t' := ⟨fun pins s σ H Q I q => h.run pins s σ H Q I (g σ H Q q)⟩
theorem pa_wk {X : Cx} {e : List Expr} {t t' : TA} (h : PA X e t) (g : ∀ σ H Q, t' σ H Q → t σ H Q) : PA X e t' := ⟨fun pos pins s σ H Q I q => h.run pos pins s σ H Q I (g σ H Q q)⟩
section
variable {X : Cx} {W : WX} {a b e : Expr} {es : List Expr} {ca cb c : CEx} {pos : Pos}
theorem CE.bo (h : CE X W e c) : CB X W e c := ⟨pe_wk h.p fun σ H Q ⟨en, sc, hc, m, E, P, r, k, xo, fin⟩ => ⟨en, sc, hc, m, E, P, r, k, xo, fun d hc' p v H' m' x q => fin d hc' p v H' m' x (.inl q)⟩⟩

/-! ### names, constants -/
def look : List Sl → Nat → Option D
  | [], _ => none
  | .val d :: _, 0 => some d
  | _ :: _, 0 => none
  | _ :: r, n + 1 => look r n
def lookO : List Sl → Nat → Option (List D)
  | [], _ => none
  | .own d :: _, 0 => some d
  | _ :: _, 0 => none
  | _ :: r, n + 1 => lookO r n
theorem look_get : ∀ {sc : List Sl} {i : Nat} {d : D}, look sc i = some d → sc[i]? = some (Sl.val d)
  | [], _, _, h => by cases h
  | .val d' :: r, 0, d, h => by cases h; rfl
  | .un :: r, 0, d, h => by cases h
  | .own _ :: r, 0, d, h => by cases h
  | x :: r, n + 1, d, h => by
    have h' : look r n = some d := by cases x <;> exact h
    simpa using look_get h'
theorem lookO_get : ∀ {sc : List Sl} {i : Nat} {d : List D}, lookO sc i = some d → sc[i]? = some (Sl.own d)
  | [], _, _, h => by cases h
  | .own d' :: r, 0, d, h => by cases h; rfl
  | .un :: r, 0, d, h => by cases h
  | .val _ :: r, 0, d, h => by cases h
  | x :: r, n + 1, d, h => by
    have h' : lookO r n = some d := by cases x <;> exact h
    simpa using lookO_get h'
/-- the name in slot i -/
def cV (i : Nat) : CEx := fun _ sc hc P => match look sc i with | some d => P d hc | none => False
def cC (d : D) : CEx := fun _ _ hc P => P d hc
def cO (i : Nat) : CEx := fun _ sc hc P => match lookO sc i with | some ds => P (.lst ds) hc | none => False
theorem ce_v (i : Nat) {x : Str} (hN : X.N[i]? = some x := by rfl) (hv : Vis X.env.scope x := by first | exact Or.inl rfl | exact Or.inr (Or.inl rfl) | exact Or.inr (Or.inr rfl)) (hd : (x == ("__debug__" : Str)) = false := by decide)
    (hcd : (x == ("__classdict__" : Str)) = false := by decide) : CE X W (.Name x pos) (cV i) := by
  refine ⟨pe_wk (pv i hN hv hd hcd) fun σ H Q ⟨en, sc, hc, m, E, P, r, k, xo, fin⟩ => ?_⟩
  unfold cV at k
  split at k
  · rename_i d e
    obtain ⟨v, e1, q⟩ := r.slot i d (look_get e)
    exact ⟨v, e1, fin d hc k v H m (.refl r.toWd) q⟩
  · exact k.elim
theorem cb_o (i : Nat) {x : Str} (hN : X.N[i]? = some x := by rfl) (hv : Vis X.env.scope x := by first | exact Or.inl rfl | exact Or.inr (Or.inl rfl) | exact Or.inr (Or.inr rfl)) (hd : (x == ("__debug__" : Str)) = false := by decide)
    (hcd : (x == ("__classdict__" : Str)) = false := by decide) : CB X W (.Name x pos) (cO i) := by
  refine ⟨pe_wk (pv i hN hv hd hcd) fun σ H Q ⟨en, sc, hc, m, E, P, r, k, xo, fin⟩ => ?_⟩
  unfold cO at k
  split at k
  · rename_i ds e
    have e' := lookO_get e
    obtain ⟨p, vs, e1, q⟩ := r.own i ds e'
    exact ⟨.ref p, e1, fin _ hc k _ H m (.refl r.toWd) (.inr ⟨i, ds, e', rfl, e1⟩)⟩
  · exact k.elim
theorem ce_c {d : D} {v : V} (h : PE X e (tC v)) (hr : ∀ H m, Rep X.K H m d v) : CE X W e (cC d) :=
  ⟨pe_wk h fun σ H Q ⟨en, sc, hc, m, E, P, r, k, xo, fin⟩ => fin d hc k v H m (.refl r.toWd) (hr H m)⟩
theorem rep_int {K : PySem.W.Frag} {H : Hp} {m : Ms} {i : Int} : Rep K H m (.int i) (.int i) := by unfold Rep; rfl
theorem rep_bl {K : PySem.W.Frag} {H : Hp} {m : Ms} {i : Bool} : Rep K H m (.bl i) (.bl i) := by unfold Rep; rfl
theorem rep_non {K : PySem.W.Frag} {H : Hp} {m : Ms} : Rep K H m .non .non := by unfold Rep; rfl
theorem rep_str {K : PySem.W.Frag} {H : Hp} {m : Ms} {i : Str} : Rep K H m (.str i) (.str i) := by unfold Rep; rfl
theorem ce_i {i : Int} {j : Nat} : CE X W (.Constant (.int i) j pos) (cC (.int i)) := ce_c pe_int fun _ _ => rep_int
theorem ce_b {i : Bool} {j : Nat} : CE X W (.Constant (.bool i) j pos) (cC (.bl i)) := ce_c pe_bl fun _ _ => rep_bl
theorem ce_n {j : Nat} : CE X W (.Constant .none j pos) (cC .non) := ce_c pe_non fun _ _ => rep_non
theorem ce_s {i : Str} {j : Nat} : CE X W (.Constant (.str i) j pos) (cC (.str i)) := ce_c pe_str fun _ _ => rep_str
/-- a module's constant: an int, a text -/
theorem ce_g {x : Str} {d : D} {v : V} {u : Value} (hg : Gl X x) (hm : X.mg x = some u) (r : RelV v u) (hr : ∀ H m, Rep X.K H m d v) (hd : (x == ("__debug__" : Str)) = false := by decide) : CE X W (.Name x pos) (cC d) := ce_c (pe_glob hg hm r hd) hr

/-! ### operations by values -/
abbrev O1 := D → CH → (D → Prop) → Prop
abbrev O2 := D → D → CH → (D → Prop) → Prop
abbrev On := List D → CH → (D → Prop) → Prop
def LV1 (K : PySem.W.Frag) (f : O1) : V → Hp → VK → Prop := fun x H Q => ∃ hc m dx P, Wd K H hc m ∧ RepW K H m dx x ∧ f dx hc P ∧ ∀ d, P d → ∀ v H', Same H H' → Rep K H' m d v → Q v H'
def LV2 (K : PySem.W.Frag) (f : O2) : R2 := fun x y H Q => ∃ hc m dx dy P, Wd K H hc m ∧ RepW K H m dx x ∧ RepW K H m dy y ∧ f dx dy hc P ∧ ∀ d, P d → ∀ v H', Same H H' → Rep K H' m d v → Q v H'
def cOp (f : O2) (ca cb : CEx) : CEx := fun E sc hc P => ca E sc hc fun x hc1 => cb E sc hc1 fun y hc2 => f x y hc2 fun d => P d hc2
def cUn (f : O1) (ca : CEx) : CEx := fun E sc hc P => ca E sc hc fun x hc1 => f x hc1 fun d => P d hc1
theorem op_lift {f : O2} {σ : L2.St} {H : Hp} {Q : VK} (h : LE X W (cOp f ca cb) σ H Q) : LB X W ca σ H fun x H1 => LB X W cb σ H1 fun y H2 => LV2 X.K f x y H2 Q := by
  obtain ⟨en, sc, hc, m, E, P, r, c, xo, fin⟩ := h
  refine ⟨en, sc, hc, m, E, _, r, c, xo, fun dx hc1 hp v H1 m1 x1 q1 => ⟨en, sc, hc1, m1, E, _, r.call x1, hp, xo, fun dy hc2 hp2 w H2 m2 x2 q2 => ⟨hc2, m2, dx, dy, _, x2.toWd, (q1.mono (r.call x1) x2.stp).w ((r.call x1).call x2), q2.w ((r.call x1).call x2), hp2, fun d pd v' H' sm q => ?_⟩⟩⟩
  exact fin d hc2 pd v' H' m2 (x1.trans (x2.trans (Ex.same x2.toWd sm))) q
theorem un_lift {f : O1} {σ : L2.St} {H : Hp} {Q : VK} (h : LE X W (cUn f ca) σ H Q) : LB X W ca σ H fun x H1 => LV1 X.K f x H1 Q := by
  obtain ⟨en, sc, hc, m, E, P, r, c, xo, fin⟩ := h
  refine ⟨en, sc, hc, m, E, _, r, c, xo, fun dx hc1 hp v H1 m1 x1 q1 => ⟨hc1, m1, dx, _, x1.toWd, q1.w (r.call x1), hp, fun d pd v' H' sm q => ?_⟩⟩
  exact fin d hc1 pd v' H' m1 (x1.trans (Ex.same x1.toWd sm)) q
theorem ce_op {op : Operator} {f : O2} (ho : OpR X (binaryOp op) (LV2 X.K f)) (ha : CB X W a ca) (hb : CB X W b cb) : CE X W (.BinOp a op b pos) (cOp f ca cb) :=
  ⟨pe_wk (pe_op ho ha.p hb.p) fun σ H Q h => op_lift h⟩
theorem ce_un {op : UnaryOp} {f : O1} (ho : UnR X (unaryOp op) (LV1 X.K f)) (ha : CB X W a ca) : CE X W (.UnaryOp op a pos) (cUn f ca) :=
  ⟨pe_wk (pe_un ho ha.p) fun σ H Q h => un_lift h⟩
theorem ce_cmp {op : CmpOp} {f : O2} (ho : OpR X (compareOp op) (LV2 X.K f)) (ha : CB X W a ca) (hb : CB X W b cb) (hm : behindInMarks op b = false := by first | exact nomark _ | rfl) : CE X W (.Compare a [op] [b] pos) (cOp f ca cb) :=
  ⟨pe_wk (pe_cmpR ho ha.p hb.p hm) fun σ H Q h => op_lift h⟩
/-- an expression that gives a bool, as a test -/
def cT (c : CEx) : CTx := fun E sc hc P => c E sc hc fun d hc' => match d with | .bl b => P b hc' | _ => False
theorem t_lift {σ : L2.St} {H : Hp} {Q : Bool → Hp → Prop} (h : LT X W (cT c) σ H Q) : LE X W c σ H fun x H1 => ∃ k, x = .bl k ∧ Q k H1 := by
  obtain ⟨en, sc, hc, m, E, P, r, k, xo, fin⟩ := h
  refine ⟨en, sc, hc, m, E, _, r, k, xo, fun d hc1 hp v H1 m1 x1 q1 => ?_⟩
  cases d <;> try exact hp.elim
  unfold Rep at q1
  exact ⟨_, q1, fin _ hc1 hp H1 m1 x1⟩
theorem ct_cmp {op : CmpOp} {f : O2} (ho : OpR X (compareOp op) (LV2 X.K f)) (ha : CB X W a ca) (hb : CB X W b cb) (hm : behindInMarks op b = false := by first | exact nomark _ | rfl) : CT X W (.Compare a [op] [b] pos) (cT (cOp f ca cb)) :=
  ⟨pt_wk (pt_cmpR ho ha.p hb.p hm) fun σ H Q h => by
    obtain ⟨en, sc, hc, m, E, P, r, c, xo, fin⟩ := t_lift h
    exact op_lift ⟨en, sc, hc, m, E, P, r, c, xo, fin⟩⟩
theorem ct_e (h : CE X W e c) (he : ∀ whole, isTrue e X.env whole = (do let v ← whole; standAt e.pos; holding [v] (truthy v)) := by intro _; rfl) : CT X W e (cT c) :=
  ⟨pt_wk (pt_val h.p he) fun σ H Q h => t_lift h⟩
end
end Mn

namespace Mn
open PySem PySem.Spec PyProof.Rows L2
theorem same_upd {H : Hp} {p : Addr} {o : HO} (h : H p = none) : Same H (upd H p o) := fun b x e => by
  rw [upd_ne (ne_of_none e h)]
  exact e
theorem rep_lst {K : PySem.W.Frag} {H : Hp} {m : Ms} {p : Addr} {ds : List D} {vs : List V} (w : MutOk H m) (n : H p = none) (r : RepL K H m ds vs) : Rep K (upd H p (.lst vs)) m (.lst ds) (.ref p) := by
  unfold Rep
  refine ⟨p, vs, rfl, fun z => ?_, upd_same, RepL.mono w (.same (same_upd n)) _ _ r⟩
  obtain ⟨vs, e⟩ := w p z
  rw [n] at e; cases e
theorem rep_tup {K : PySem.W.Frag} {H : Hp} {m : Ms} {p : Addr} {ds : List D} {vs : List V} (w : MutOk H m) (n : H p = none) (r : RepL K H m ds vs) : Rep K (upd H p (.tup vs)) m (.tup ds) (.ref p) := by
  unfold Rep
  exact ⟨p, vs, rfl, .inl (.inl upd_same), RepL.mono w (.same (same_upd n)) _ _ r⟩
theorem rep_same {K : PySem.W.Frag} {H H' : Hp} {m : Ms} {d : D} {v : V} (w : MutOk H m) (s : Same H H') (h : Rep K H m d v) : Rep K H' m d v := Rep.mono w (.same s) _ _ h

section
variable {X : Cx}
/-! ### +, -, * .. -/
def addD : O2
  | .int i, .int j, _, P => P (.int (i + j))
  | .str x, .str y, _, P => x.length + y.length ≤ sizeLine ∧ P (.str (x ++ y))
  | .lst xs, .lst ys, _, P => xs.length + ys.length ≤ sizeLine ∧ P (.lst (xs ++ ys))
  | .tup xs, .tup ys, _, P => xs.length + ys.length ≤ sizeLine ∧ P (.tup (xs ++ ys))
  | .ref a, .lst ys, hc, P => oth (hc a) fun xs => xs.length + ys.length ≤ sizeLine ∧ P (.lst (xs ++ ys))
  | .lst xs, .ref a, hc, P => oth (hc a) fun ys => xs.length + ys.length ≤ sizeLine ∧ P (.lst (xs ++ ys))
  | _, _, _, _ => False
theorem op_addD : OpR X (binaryOp .Add) (LV2 X.K addD) := by
  intro pins s σ H x y v u Q I rx ry h
  obtain ⟨hc, m, dx, dy, P, w, h1, h2, f, fin⟩ := h
  cases dx <;> cases dy <;> try exact f.elim
  · unfold RepW Rep at h1 h2
    subst h1; subst h2
    exact op_add pins s σ H _ _ v u Q I rx ry ⟨_, _, rfl, rfl, fin _ f _ _ (.refl H) rep_int⟩
  · unfold RepW Rep at h1 h2
    subst h1; subst h2
    exact op_add_str pins s σ H _ _ v u Q I rx ry ⟨_, _, rfl, rfl, f.1, fin _ f.2 _ _ (.refl H) rep_str⟩
  · rename_i xs ys
    unfold RepW Rep at h1 h2
    obtain ⟨p, vs, rfl, q1, r1⟩ := h1
    obtain ⟨p2, vs2, rfl, q2, r2⟩ := h2
    refine op_catA pins s σ H _ _ v u Q I rx ry ⟨p, p2, vs, vs2, rfl, rfl, q1, q2, by rw [← r1.length, ← r2.length]; exact f.1, fun e => ?_, fun _ e => ?_, fun _ _ q n => ?_⟩
    · subst e
      have := r1.length
      have e0 : xs = [] := List.length_eq_zero_iff.mp this
      subst e0
      exact fin _ f.2 _ _ (.refl H) (by unfold Rep; exact ⟨p2, vs2, rfl, q2, r2⟩)
    · subst e
      have := r2.length
      have e0 : ys = [] := List.length_eq_zero_iff.mp this
      subst e0
      exact fin _ f.2 _ _ (.refl H) (by rw [List.append_nil]; unfold Rep; exact ⟨p, vs, rfl, q1, r1⟩)
    · exact fin _ f.2 _ _ (same_upd n) (rep_tup w.mu n (r1.append r2))
  · rename_i xs ys
    unfold RepW at h1 h2
    obtain ⟨p, vs, rfl, q1, r1⟩ := h1
    obtain ⟨p2, vs2, rfl, q2, r2⟩ := h2
    exact op_cat pins s σ H _ _ v u Q I rx ry ⟨p, p2, vs, vs2, rfl, rfl, q1, q2, by rw [← r1.length, ← r2.length]; exact f.1, fun q n => fin _ f.2 _ _ (same_upd n) (rep_lst w.mu n (r1.append r2))⟩
  · unfold RepW at h1 h2
    unfold Rep at h2
    obtain ⟨p, vs, rfl, q1, r1⟩ := h1
    subst h2
    obtain ⟨zs, e, lz, f⟩ := oth_of f
    obtain ⟨ws, q2, r2⟩ := w.heap _ _ e
    exact op_cat pins s σ H _ _ v u Q I rx ry ⟨p, _, vs, ws, rfl, rfl, q1, q2, by rw [← r1.length, ← r2.length]; exact lz, fun q n => fin _ f _ _ (same_upd n) (rep_lst w.mu n (r1.append r2))⟩
  · unfold RepW at h1 h2
    unfold Rep at h1
    obtain ⟨p, vs, rfl, q1, r1⟩ := h2
    subst h1
    obtain ⟨zs, e, lz, f⟩ := oth_of f
    obtain ⟨ws, q2, r2⟩ := w.heap _ _ e
    exact op_cat pins s σ H _ _ v u Q I rx ry ⟨_, p, ws, vs, rfl, rfl, q2, q1, by rw [← r1.length, ← r2.length]; exact lz, fun q n => fin _ f _ _ (same_upd n) (rep_lst w.mu n (r2.append r1))⟩
/-- ints in, an int out, under C -/
def intD (C : Int → Int → Prop) (g : Int → Int → Int) : O2
  | .int i, .int j, _, P => C i j ∧ P (.int (g i j))
  | _, _, _, _ => False
def intD0 (g : Int → Int → Int) : O2
  | .int i, .int j, _, P => P (.int (g i j))
  | _, _, _, _ => False
theorem op_intD {f : Value → Value → Sem Value} {C : Int → Int → Prop} {g : Int → Int → Int} (ho : OpR X f (rI C fun i j => .int (g i j))) : OpR X f (LV2 X.K (intD C g)) := by
  intro pins s σ H x y v u Q I rx ry h
  obtain ⟨hc, m, dx, dy, P, w, h1, h2, f, fin⟩ := h
  cases dx <;> cases dy <;> try exact f.elim
  unfold RepW Rep at h1 h2
  subst h1; subst h2
  exact ho pins s σ H _ _ v u Q I rx ry ⟨_, _, rfl, rfl, f.1, fin _ f.2 _ _ (.refl H) rep_int⟩
theorem op_intD0 {f : Value → Value → Sem Value} {g : Int → Int → Int} (ho : OpR X f (rI0 fun i j => .int (g i j))) : OpR X f (LV2 X.K (intD0 g)) := by
  intro pins s σ H x y v u Q I rx ry h
  obtain ⟨hc, m, dx, dy, P, w, h1, h2, f, fin⟩ := h
  cases dx <;> cases dy <;> try exact f.elim
  unfold RepW Rep at h1 h2
  subst h1; subst h2
  exact ho pins s σ H _ _ v u Q I rx ry ⟨_, _, rfl, rfl, fin _ f _ _ (.refl H) rep_int⟩
abbrev subD : O2 := intD0 fun i j => i - j
theorem op_subD : OpR X (binaryOp .Sub) (LV2 X.K subD) := op_intD0 op_sub
/-- the bits of both factors -/
def MulOk (i j : Int) : Prop := IntMulOk i j
theorem mulOk {i j : Int} (a b : Nat) (ha : i.natAbs < 2 ^ a) (hb : j.natAbs < 2 ^ b) (h : a + b ≤ 134217728) : MulOk i j := (mulx_ok ha hb h).ok
theorem mulOk_l {i j : Int} (h : -(2 ^ 64) < i ∧ i < 2 ^ 64) : MulOk i j := CMul.ok (.inl h)
theorem mulOk_r {i j : Int} (h : -(2 ^ 64) < j ∧ j < 2 ^ 64) : MulOk i j := CMul.ok (.inr h)
theorem op_mulI : OpR X (binaryOp .Mult) (rI MulOk fun i j => .int (i * j)) := opI fun _ _ _ _ _ _ _ hc q => mul_int q hc
def mulD : O2
  | .int i, .int j, _, P => MulOk i j ∧ P (.int (i * j))
  | .lst xs, .int k, _, P => (-(2 ^ 63) ≤ k ∧ k < 2 ^ 63 ∧ xs.length * k.toNat ≤ sizeLine) ∧ P (.lst (List.replicate k.toNat xs).flatten)
  | .tup xs, .int k, _, P => (xs ≠ [] ∧ 2 ≤ k ∧ k ≤ 1000 ∧ xs.length ≤ 1000) ∧ P (.tup (List.replicate k.toNat xs).flatten)
  | _, _, _, _ => False
theorem RepL.rep {K : PySem.W.Frag} {H : Hp} {m : Ms} {ds : List D} {vs : List V} (h : RepL K H m ds vs) : ∀ n : Nat, RepL K H m (List.replicate n ds).flatten (List.replicate n vs).flatten
  | 0 => RepL.nil
  | n + 1 => by
    rw [List.replicate_succ, List.replicate_succ, List.flatten_cons, List.flatten_cons]
    exact h.append (RepL.rep h n)
theorem op_mulD : OpR X (binaryOp .Mult) (LV2 X.K mulD) := by
  intro pins s σ H x y v u Q I rx ry h
  obtain ⟨hc, m, dx, dy, P, w, h1, h2, f, fin⟩ := h
  cases dx <;> cases dy <;> try exact f.elim
  · unfold RepW Rep at h1 h2
    subst h1; subst h2
    exact op_mulI pins s σ H _ _ v u Q I rx ry ⟨_, _, rfl, rfl, f.1, fin _ f.2 _ _ (.refl H) rep_int⟩
  · unfold RepW Rep at h1 h2
    obtain ⟨p, vs, rfl, q1, r1⟩ := h1
    subst h2
    exact op_repT pins s σ H _ _ v u Q I rx ry ⟨p, _, vs, rfl, rfl, q1, fun e => f.1.1 (by
      have l := r1.length
      rw [e] at l
      exact List.length_eq_zero_iff.mp l), f.1.2.1, f.1.2.2.1, by rw [← r1.length]; exact f.1.2.2.2, fun q n => fin _ f.2 _ _ (same_upd n) (rep_tup w.mu n (r1.rep _))⟩
  · unfold RepW at h1 h2
    unfold Rep at h2
    obtain ⟨p, vs, rfl, q1, r1⟩ := h1
    subst h2
    exact op_rep pins s σ H _ _ v u Q I rx ry ⟨p, _, vs, rfl, rfl, q1, f.1.1, f.1.2.1, by rw [← r1.length]; exact f.1.2.2, fun q n => fin _ f.2 _ _ (same_upd n) (rep_lst w.mu n (r1.rep _))⟩
/-- the divisor is not 0, and C's own division does it -/
def DivOk (i j : Int) : Prop := 0 < j ∧ Builtin.divisionGoesByPylong i j = false
theorem divOk {i j : Int} (b : Nat) (h : 0 < j) (hb : j.natAbs < 2 ^ b) (h9 : b ≤ 9000) : DivOk i j := by
  by_cases hb0 : b = 0
  · subst hb0
    have : j.natAbs < 1 := by simpa using hb
    omega
  · exact ⟨h, PyProof.noPylong_of_log2 (Nat.lt_of_lt_of_le (PySem.Flt.log2_lt_of (by omega) hb) h9)⟩
theorem op_fdivI : OpR X (binaryOp .FloorDiv) (rI DivOk fun i j => .int (i / j)) := opI fun i j _ _ _ _ _ hc q => by
  have h1 : (0 : Int) < j := hc.1
  exact floordiv_int (by omega) (by rw [Int.fdiv_eq_ediv_of_nonneg i (by omega)]; exact q) (.inl hc.2)
abbrev fdivD : O2 := intD DivOk fun i j => i / j
theorem op_fdivD : OpR X (binaryOp .FloorDiv) (LV2 X.K fdivD) := op_intD op_fdivI
abbrev modD : O2 := intD (fun _ j => 0 < j) fun i j => i % j
theorem op_modD : OpR X (binaryOp .Mod) (LV2 X.K modD) := op_intD op_mod
abbrev powD : O2 := intD CPow fun i j => i ^ j.toNat
theorem op_powD : OpR X (binaryOp .Pow) (LV2 X.K powD) := op_intD op_pow
abbrev shlD : O2 := intD CShl fun i j => i * 2 ^ j.toNat
theorem op_shlD : OpR X (binaryOp .LShift) (LV2 X.K shlD) := op_intD op_shlW
abbrev shrD : O2 := intD (fun _ j => 0 ≤ j) fun i j => i / 2 ^ j.toNat
theorem op_shrD : OpR X (binaryOp .RShift) (LV2 X.K shrD) := op_intD op_shr
abbrev andD : O2 := intD0 Builtin.bitAnd
theorem op_andD : OpR X (binaryOp .BitAnd) (LV2 X.K andD) := op_intD0 op_and
abbrev orD : O2 := intD0 Builtin.bitOr
theorem op_orD : OpR X (binaryOp .BitOr) (LV2 X.K orD) := op_intD0 op_or
def negD : O1
  | .int i, _, P => P (.int (-i))
  | _, _, _ => False
theorem un_negD : UnR X (unaryOp .USub) (LV1 X.K negD) := by
  intro pins s σ H x v Q I rx h
  obtain ⟨hc, m, dx, P, w, h1, f, fin⟩ := h
  cases dx <;> try exact f.elim
  unfold RepW Rep at h1
  subst h1
  exact un_neg pins s σ H _ v Q I rx ⟨_, rfl, fin _ f _ _ (.refl H) rep_int⟩
end
end Mn

namespace Mn
open PySem PySem.Spec PyProof.Rows L2
/-! ### data without mutable things -/
mutual
def toPy : D → Option PyData
  | .non => some .none
  | .bl b => some (.bool b)
  | .int i => some (.int i)
  | .str s => some (.str s)
  | .tup xs => (toPyL xs).map .tuple
  | .lst xs => (toPyL xs).map .list
  | .ref _ => none
  | .dct _ _ => none
  | .frz _ => none
def toPyL : List D → Option (List PyData)
  | [] => some []
  | d :: ds => match toPy d, toPyL ds with
    | some p, some ps => some (p :: ps)
    | _, _ => none
end
mutual
theorem dp_of {K : PySem.W.Frag} {H : Hp} {m : Ms} : ∀ (d : D) (v : V) (p : PyData), toPy d = some p → Rep K H m d v → Dp K H v p
  | .non, v, p, e, h => by unfold toPy at e; unfold Rep at h; cases e; subst h; exact .non
  | .bl _, v, p, e, h => by unfold toPy at e; unfold Rep at h; cases e; subst h; exact .bl _
  | .int _, v, p, e, h => by unfold toPy at e; unfold Rep at h; cases e; subst h; exact .int _
  | .str _, v, p, e, h => by unfold toPy at e; unfold Rep at h; cases e; subst h; exact .str _
  | .tup xs, v, p, e, h => by
    unfold toPy at e; unfold Rep at h
    obtain ⟨a, vs, rfl, q, r⟩ := h
    cases e2 : toPyL xs with
    | none => rw [e2] at e; cases e
    | some ps => rw [e2] at e; cases e; exact .tup q (dpl_of xs vs ps e2 r)
  | .lst xs, v, p, e, h => by
    unfold toPy at e; unfold Rep at h
    obtain ⟨a, vs, rfl, _, q, r⟩ := h
    cases e2 : toPyL xs with
    | none => rw [e2] at e; cases e
    | some ps => rw [e2] at e; cases e; exact .lst (.of q) (dpl_of xs vs ps e2 r)
  | .ref _, v, p, e, h => by unfold toPy at e; cases e
  | .dct _ _, v, p, e, h => by unfold toPy at e; cases e
  | .frz _, v, p, e, h => by unfold toPy at e; cases e
theorem dpl_of {K : PySem.W.Frag} {H : Hp} {m : Ms} : ∀ (ds : List D) (vs : List V) (ps : List PyData), toPyL ds = some ps → RepL K H m ds vs → DpAll K H vs ps
  | [], vs, ps, e, h => by unfold toPyL at e; unfold RepL at h; cases e; subst h; exact .nil
  | d :: ds, vs, ps, e, h => by
    unfold toPyL at e; unfold RepL at h
    obtain ⟨v, r, rfl, h1, h2⟩ := h
    cases e1 : toPy d with
    | none => rw [e1] at e; cases e
    | some p =>
      cases e2 : toPyL ds with
      | none => rw [e1, e2] at e; cases e
      | some ps' => rw [e1, e2] at e; cases e; exact .cons (dp_of d v p e1 h1) (dpl_of ds r ps' e2 h2)
end
theorem dpw_of {K : PySem.W.Frag} {H : Hp} {m : Ms} : ∀ (d : D) (v : V) (p : PyData), toPy d = some p → RepW K H m d v → Dp K H v p
  | .lst xs, v, p, e, h => by
    unfold toPy at e; unfold RepW at h
    obtain ⟨a, vs, rfl, q, r⟩ := h
    cases e2 : toPyL xs with
    | none => rw [e2] at e; cases e
    | some ps => rw [e2] at e; cases e; exact .lst (.of q) (dpl_of xs vs ps e2 r)
  | .non, v, p, e, h => dp_of (m := m) _ v p e h
  | .bl _, v, p, e, h => dp_of (m := m) _ v p e h
  | .int _, v, p, e, h => dp_of (m := m) _ v p e h
  | .str _, v, p, e, h => dp_of (m := m) _ v p e h
  | .tup xs, v, p, e, h => dp_of (m := m) _ v p e h
  | .ref _, v, p, e, h => by unfold toPy at e; cases e
  | .dct _ _, v, p, e, h => by unfold toPy at e; cases e
  | .frz _, v, p, e, h => by unfold toPy at e; cases e
/-- == -/
def eqG (neg : Bool) (x y : D) (P : D → Prop) : Prop := ∃ p q, toPy x = some p ∧ toPy y = some q ∧ SeqAt.shaped p = true ∧ SeqAt.shaped q = true ∧ P (.bl (if neg then !PyData.eqv p q else PyData.eqv p q))
def eqD : O2 := fun x y _ P => match x, y with
  | .int i, .int j => P (.bl (decide (i = j)))
  | .str a, .str b => P (.bl (decide (a = b)))
  | .non, .non => P (.bl true)
  | x, y => eqG false x y P
def neD : O2 := fun x y _ P => match x, y with
  | .int i, .int j => P (.bl (!decide (i = j)))
  | .str a, .str b => P (.bl (!decide (a = b)))
  | .non, .non => P (.bl false)
  | x, y => eqG true x y P
def cmpD (f : Int → Int → Bool) : O2
  | .int i, .int j, _, P => P (.bl (f i j))
  | _, _, _, _ => False
abbrev ltD : O2 := cmpD fun i j => decide (i < j)
abbrev leD : O2 := cmpD fun i j => decide (i ≤ j)
abbrev gtD : O2 := cmpD fun i j => decide (j < i)
abbrev geD : O2 := cmpD fun i j => decide (j ≤ i)
/-- x is None -/
def isND : O2
  | .non, .non, _, P => P (.bl true)
  | .ref _, .non, _, P => P (.bl false)
  | .lst _, .non, _, P => P (.bl false)
  | .tup _, .non, _, P => P (.bl false)
  | .dct _ _, .non, _, P => P (.bl false)
  | .int _, .non, _, P => P (.bl false)
  | .bl _, .non, _, P => P (.bl false)
  | .str _, .non, _, P => P (.bl false)
  | _, _, _, _ => False
def notND : O2
  | .non, .non, _, P => P (.bl false)
  | .ref _, .non, _, P => P (.bl true)
  | .lst _, .non, _, P => P (.bl true)
  | .tup _, .non, _, P => P (.bl true)
  | .dct _ _, .non, _, P => P (.bl true)
  | .int _, .non, _, P => P (.bl true)
  | .bl _, .non, _, P => P (.bl true)
  | .str _, .non, _, P => P (.bl true)
  | _, _, _, _ => False
theorem repw_nn {K : PySem.W.Frag} {H : Hp} {m : Ms} : ∀ {d : D} {v : V}, RepW K H m d v → d ≠ .non → v ≠ .non
  | .non, _, _, hd => absurd rfl hd
  | .bl _, v, h, _ => by unfold RepW Rep at h; rw [h]; exact fun e => nomatch e
  | .int _, v, h, _ => by unfold RepW Rep at h; rw [h]; exact fun e => nomatch e
  | .str _, v, h, _ => by unfold RepW Rep at h; rw [h]; exact fun e => nomatch e
  | .tup _, v, h, _ => by unfold RepW Rep at h; obtain ⟨p, vs, e, _⟩ := h; rw [e]; exact fun e => nomatch e
  | .lst _, v, h, _ => by unfold RepW at h; obtain ⟨p, vs, e, _⟩ := h; rw [e]; exact fun e => nomatch e
  | .ref _, v, h, _ => by unfold RepW Rep at h; rw [h]; exact fun e => nomatch e
  | .dct _ _, v, h, _ => by unfold RepW Rep at h; obtain ⟨p, vs, e, _⟩ := h; rw [e]; exact fun e => nomatch e
  | .frz _, v, h, _ => by unfold RepW Rep at h; obtain ⟨p, vs, e, _⟩ := h; rw [e]; exact fun e => nomatch e
section
variable {X : Cx}
theorem op_cmpD {f : Value → Value → Sem Value} {g : Int → Int → Bool} (ho : OpR X f (rI0 fun i j => .bl (g i j))) : OpR X f (LV2 X.K (cmpD g)) := by
  intro pins s σ H x y v u Q I rx ry h
  obtain ⟨hc, m, dx, dy, P, w, h1, h2, f, fin⟩ := h
  cases dx <;> cases dy <;> try exact f.elim
  unfold RepW Rep at h1 h2
  subst h1; subst h2
  exact ho pins s σ H _ _ v u Q I rx ry ⟨_, _, rfl, rfl, fin _ f _ _ (.refl H) rep_bl⟩
theorem op_ltD : OpR X (compareOp .Lt) (LV2 X.K ltD) := op_cmpD op_lt
theorem op_leD : OpR X (compareOp .LtE) (LV2 X.K leD) := op_cmpD op_le
theorem op_gtD : OpR X (compareOp .Gt) (LV2 X.K gtD) := op_cmpD op_gt
theorem op_geD : OpR X (compareOp .GtE) (LV2 X.K geD) := op_cmpD op_ge
theorem op_isND : OpR X (compareOp .Is) (LV2 X.K isND) := by
  intro pins s σ H x y v u Q I rx ry h
  obtain ⟨hc, m, dx, dy, P, w, h1, h2, f, fin⟩ := h
  have hy : dy = .non := by cases dy <;> first | rfl | (cases dx <;> exact f.elim)
  subst hy
  have e2 : y = .non := by unfold RepW Rep at h2; exact h2
  subst e2
  refine op_isN pins s σ H _ _ v u Q I rx ry ⟨rfl, ?_⟩
  by_cases hx : dx = .non
  · subst hx
    unfold RepW Rep at h1
    subst h1
    exact fin _ f _ _ (.refl H) rep_bl
  · rw [decide_eq_false (repw_nn h1 hx)]
    cases dx <;> first | exact f.elim | exact absurd rfl hx | exact fin _ f _ _ (.refl H) rep_bl
theorem op_notND : OpR X (compareOp .IsNot) (LV2 X.K notND) := by
  intro pins s σ H x y v u Q I rx ry h
  obtain ⟨hc, m, dx, dy, P, w, h1, h2, f, fin⟩ := h
  have hy : dy = .non := by cases dy <;> first | rfl | (cases dx <;> exact f.elim)
  subst hy
  have e2 : y = .non := by unfold RepW Rep at h2; exact h2
  subst e2
  refine op_notN pins s σ H _ _ v u Q I rx ry ⟨rfl, ?_⟩
  by_cases hx : dx = .non
  · subst hx
    unfold RepW Rep at h1
    subst h1
    exact fin _ f _ _ (.refl H) rep_bl
  · rw [decide_eq_false (repw_nn h1 hx)]
    cases dx <;> first | exact f.elim | exact absurd rfl hx | exact fin _ f _ _ (.refl H) rep_bl
theorem eq_flat {K : PySem.W.Frag} {H : Hp} {m : Ms} {Q : VK} {P : D → Prop} {b : Bool} (fin : ∀ d, P d → ∀ v H', Same H H' → Rep K H' m d v → Q v H') (h : P (.bl b)) : Q (.bl b) H := fin _ h _ _ (.refl H) rep_bl
theorem op_eqDD (hu : X.A.units + 64 < cLine) : OpR X (compareOp .Eq) (LV2 X.K eqD) := by
  intro pins s σ H x y v u Q I rx ry h
  obtain ⟨hc, m, dx, dy, P, w, h1, h2, f, fin⟩ := h
  have gen : eqG false dx dy P → wpAny (model X.prog X.w) X.A (compareOp .Eq v u) (EP X pins σ Q) X.xe s := fun ⟨p, q, e1, e2, s1, s2, k⟩ =>
    op_eqD hu pins s σ H x y v u Q I rx ry ⟨p, q, dpw_of _ _ _ e1 h1, dpw_of _ _ _ e2 h2, s1, s2, eq_flat fin k⟩
  unfold eqD at f
  split at f
  · unfold RepW Rep at h1 h2
    subst h1; subst h2
    refine op_eq pins s σ H _ _ v u Q I rx ry ⟨rfl, ?_⟩
    rw [show decide (V.int _ = V.int _) = decide (_ = _) from decide_eq_decide.mpr ⟨fun e => V.int.inj e, fun e => congrArg V.int e⟩]
    exact eq_flat fin f
  · unfold RepW Rep at h1 h2
    subst h1; subst h2
    refine op_eq pins s σ H _ _ v u Q I rx ry ⟨rfl, ?_⟩
    rw [show decide (V.str _ = V.str _) = decide (_ = _) from decide_eq_decide.mpr ⟨fun e => V.str.inj e, fun e => congrArg V.str e⟩]
    exact eq_flat fin f
  · exact gen ⟨.none, .none, rfl, rfl, rfl, rfl, f⟩
  · exact gen f
theorem op_neDD (hu : X.A.units + 64 < cLine) : OpR X (compareOp .NotEq) (LV2 X.K neD) := by
  intro pins s σ H x y v u Q I rx ry h
  obtain ⟨hc, m, dx, dy, P, w, h1, h2, f, fin⟩ := h
  have gen : eqG true dx dy P → wpAny (model X.prog X.w) X.A (compareOp .NotEq v u) (EP X pins σ Q) X.xe s := fun ⟨p, q, e1, e2, s1, s2, k⟩ =>
    op_neD hu pins s σ H x y v u Q I rx ry ⟨p, q, dpw_of _ _ _ e1 h1, dpw_of _ _ _ e2 h2, s1, s2, eq_flat fin k⟩
  unfold neD at f
  split at f
  · unfold RepW Rep at h1 h2
    subst h1; subst h2
    refine op_ne pins s σ H _ _ v u Q I rx ry ⟨rfl, ?_⟩
    rw [show decide (V.int _ = V.int _) = decide (_ = _) from decide_eq_decide.mpr ⟨fun e => V.int.inj e, fun e => congrArg V.int e⟩]
    exact eq_flat fin f
  · unfold RepW Rep at h1 h2
    subst h1; subst h2
    refine op_ne pins s σ H _ _ v u Q I rx ry ⟨rfl, ?_⟩
    rw [show decide (V.str _ = V.str _) = decide (_ = _) from decide_eq_decide.mpr ⟨fun e => V.str.inj e, fun e => congrArg V.str e⟩]
    exact eq_flat fin f
  · exact gen ⟨.none, .none, rfl, rfl, rfl, rfl, f⟩
  · exact gen f
end
section
variable {X : Cx} {W : WX} {a b c e : Expr} {es rest : List Expr} {ca cb cc : CEx} {ta tb : CTx} {pos : Pos}
/-! ### chains, and, or, not, if -/
def cCh (f g : O2) (ca cb cc : CEx) : CEx := fun E sc hc P => ca E sc hc fun x hc1 => cb E sc hc1 fun y hc2 => f x y hc2 fun d => match d with
  | .bl true => cc E sc hc2 fun z hc3 => g y z hc3 fun r => P r hc3
  | .bl false => P (.bl false) hc2
  | _ => False
theorem ch_lift {f g : O2} {σ : L2.St} {H : Hp} {Q : VK} (h : LE X W (cCh f g ca cb cc) σ H Q) : tChain (LV2 X.K f) (LV2 X.K g) (LB X W ca) (LB X W cb) (LB X W cc) σ H Q := by
  obtain ⟨en, sc, hc, m, E, P, r, c, xo, fin⟩ := h
  refine ⟨en, sc, hc, m, E, _, r, c, xo, fun dx hc1 hp v H1 m1 x1 q1 => ⟨en, sc, hc1, m1, E, _, r.call x1, hp, xo, fun dy hc2 hp2 w H2 m2 x2 q2 => ⟨hc2, m2, dx, dy, _, x2.toWd, (q1.mono (r.call x1) x2.stp).w ((r.call x1).call x2), q2.w ((r.call x1).call x2), hp2, fun d pd v' H' sm q => ?_⟩⟩⟩
  cases d <;> try exact pd.elim
  rename_i bb
  unfold Rep at q
  subst q
  have r1 := r.call x1
  have r2 := r1.call x2
  have x3 := x1.trans (x2.trans (Ex.same x2.toWd sm))
  have r3 := r.call x3
  cases bb with
  | true =>
    refine ⟨true, rfl, ?_⟩
    rw [if_pos rfl]
    refine ⟨en, sc, hc2, m2, E, _, r3, pd, xo, fun dz hc3 hp3 z H3 m3 x4 q4 => ⟨hc3, m3, dy, dz, _, x4.toWd, ((q2.mono r2 (.same sm)).mono r3 x4.stp).w (r3.call x4), q4.w (r3.call x4), hp3, fun d' pd' v2 H2' sm2 qq => ?_⟩⟩
    exact fin d' hc3 pd' v2 H2' m3 (x3.trans (x4.trans (Ex.same x4.toWd sm2))) qq
  | false =>
    refine ⟨false, rfl, ?_⟩
    rw [if_neg Bool.false_ne_true]
    exact fin _ hc2 pd _ _ m2 x3 rep_bl
theorem ce_ch {o1 o2 : CmpOp} {f g : O2} (h1 : OpR X (compareOp o1) (LV2 X.K f)) (h2 : OpR X (compareOp o2) (LV2 X.K g)) (ha : CB X W a ca) (hb : CB X W b cb) (hc : CB X W c cc) (hm : lastMarks [o1, o2] [b, c] = false := by with_unfolding_all rfl) : CE X W (.Compare a [o1, o2] [b, c] pos) (cCh f g ca cb cc) :=
  ⟨pe_wk (pe_chain h1 h2 ha.p hb.p hc.p hm) fun σ H Q h => ch_lift h⟩
theorem ct_ch {o1 o2 : CmpOp} {f g : O2} (h1 : OpR X (compareOp o1) (LV2 X.K f)) (h2 : OpR X (compareOp o2) (LV2 X.K g)) (ha : CB X W a ca) (hb : CB X W b cb) (hc : CB X W c cc) (hm : lastMarks [o1, o2] [b, c] = false := by with_unfolding_all rfl) : CT X W (.Compare a [o1, o2] [b, c] pos) (cT (cCh f g ca cb cc)) :=
  ⟨pt_wk (pt_chain h1 h2 ha.p hb.p hc.p hm) fun σ H Q h => by
    obtain ⟨en, sc, hc, m, E, P, r, c, xo, fin⟩ := t_lift h
    exact ch_lift ⟨en, sc, hc, m, E, P, r, c, xo, fin⟩⟩
def cAnd (t u : CTx) : CTx := fun E sc hc P => t E sc hc fun b hc1 => if b = true then u E sc hc1 P else P false hc1
def cOr (t u : CTx) : CTx := fun E sc hc P => t E sc hc fun b hc1 => if b = true then P true hc1 else u E sc hc1 P
def cNot (t : CTx) : CTx := fun E sc hc P => t E sc hc fun b hc1 => P (!b) hc1
structure CW (X : Cx) (W : WX) (e : Expr) (c : CTx) : Prop where
  p : PW X e (LT X W c)
theorem pw_wk {X : Cx} {e : Expr} {t t' : TT} (h : PW X e t) (g : ∀ σ H Q, t' σ H Q → t σ H Q) : PW X e t' := ⟨fun wh pins s σ H Q I q => h.run wh pins s σ H Q I (g σ H Q q)⟩
theorem CW.t {e : Expr} {t : CTx} (h : CW X W e t) : CT X W e t := ⟨h.p.pt⟩
theorem and_lift {σ : L2.St} {H : Hp} {Q : Bool → Hp → Prop} (h : LT X W (cAnd ta tb) σ H Q) : tAnd (LT X W ta) (LT X W tb) σ H Q := by
  obtain ⟨en, sc, hc, m, E, P, r, c, xo, fin⟩ := h
  refine ⟨en, sc, hc, m, E, _, r, c, xo, fun b hc1 hp H1 m1 x1 => ?_⟩
  cases b with
  | true =>
    rw [if_pos rfl] at hp ⊢
    exact ⟨en, sc, hc1, m1, E, _, r.call x1, hp, xo, fun b2 hc2 hp2 H2 m2 x2 => fin b2 hc2 hp2 H2 m2 (x1.trans x2)⟩
  | false =>
    rw [if_neg Bool.false_ne_true] at hp ⊢
    exact fin _ hc1 hp H1 m1 x1
theorem or_lift {σ : L2.St} {H : Hp} {Q : Bool → Hp → Prop} (h : LT X W (cOr ta tb) σ H Q) : tOr (LT X W ta) (LT X W tb) σ H Q := by
  obtain ⟨en, sc, hc, m, E, P, r, c, xo, fin⟩ := h
  refine ⟨en, sc, hc, m, E, _, r, c, xo, fun b hc1 hp H1 m1 x1 => ?_⟩
  cases b with
  | true =>
    rw [if_pos rfl] at hp ⊢
    exact fin _ hc1 hp H1 m1 x1
  | false =>
    rw [if_neg Bool.false_ne_true] at hp ⊢
    exact ⟨en, sc, hc1, m1, E, _, r.call x1, hp, xo, fun b2 hc2 hp2 H2 m2 x2 => fin b2 hc2 hp2 H2 m2 (x1.trans x2)⟩
theorem cw_and1 (ha : CT X W a ta) : CW X W (.BoolOp .And [a] pos) ta := ⟨pw_and1 ha.p⟩
theorem cw_or1 (ha : CT X W a ta) : CW X W (.BoolOp .Or [a] pos) ta := ⟨pw_or1 ha.p⟩
theorem cw_and (ha : CT X W a ta) (hb : CW X W (.BoolOp .And (b :: rest) pos) tb) : CW X W (.BoolOp .And (a :: b :: rest) pos) (cAnd ta tb) := ⟨pw_wk (pw_and ha.p hb.p) fun _ _ _ h => and_lift h⟩
theorem cw_or (ha : CT X W a ta) (hb : CW X W (.BoolOp .Or (b :: rest) pos) tb) : CW X W (.BoolOp .Or (a :: b :: rest) pos) (cOr ta tb) := ⟨pw_wk (pw_or ha.p hb.p) fun _ _ _ h => or_lift h⟩
theorem ct_not (ha : CT X W a ta) : CT X W (.UnaryOp .Not a pos) (cNot ta) := ⟨pt_wk (pt_not ha.p) fun σ H Q ⟨en, sc, hc, m, E, P, r, c, xo, fin⟩ => ⟨en, sc, hc, m, E, _, r, c, xo, fun b hc1 hp H1 m1 x1 => fin _ hc1 hp H1 m1 x1⟩⟩
/-- as values: all but the last are bools -/
def cAndV (ca cb : CEx) : CEx := fun E sc hc P => ca E sc hc fun d hc1 => match d with | .bl true => cb E sc hc1 P | .bl false => P (.bl false) hc1 | _ => False
def cOrV (ca cb : CEx) : CEx := fun E sc hc P => ca E sc hc fun d hc1 => match d with | .bl true => P (.bl true) hc1 | .bl false => cb E sc hc1 P | _ => False
def cNotV (ca : CEx) : CEx := fun E sc hc P => ca E sc hc fun d hc1 => match d with | .bl b => P (.bl (!b)) hc1 | _ => False
theorem ce_one {op : BoolOp} (h : CE X W a ca) : CE X W (.BoolOp op [a] pos) ca := ⟨pe_one h.p⟩
theorem ce_and (ha : CE X W a ca) (hb : CE X W (.BoolOp .And (b :: rest) pos) cb) : CE X W (.BoolOp .And (a :: b :: rest) pos) (cAndV ca cb) := ⟨pe_wk (pe_and ha.p hb.p) fun σ H Q h => by
  obtain ⟨en, sc, hc, m, E, P, r, c, xo, fin⟩ := h
  refine ⟨en, sc, hc, m, E, _, r, c, xo, fun d hc1 hp v H1 m1 x1 q => ?_⟩
  cases d <;> try exact hp.elim
  rename_i k
  unfold Rep at q
  refine ⟨k, q, ?_⟩
  cases k with
  | true =>
    rw [if_pos rfl]
    exact ⟨en, sc, hc1, m1, E, _, r.call x1, hp, xo, fun d2 hc2 hp2 v2 H2 m2 x2 q2 => fin d2 hc2 hp2 v2 H2 m2 (x1.trans x2) q2⟩
  | false =>
    rw [if_neg Bool.false_ne_true]
    exact fin _ hc1 hp _ H1 m1 x1 rep_bl⟩
theorem ce_or (ha : CE X W a ca) (hb : CE X W (.BoolOp .Or (b :: rest) pos) cb) : CE X W (.BoolOp .Or (a :: b :: rest) pos) (cOrV ca cb) := ⟨pe_wk (pe_or ha.p hb.p) fun σ H Q h => by
  obtain ⟨en, sc, hc, m, E, P, r, c, xo, fin⟩ := h
  refine ⟨en, sc, hc, m, E, _, r, c, xo, fun d hc1 hp v H1 m1 x1 q => ?_⟩
  cases d <;> try exact hp.elim
  rename_i k
  unfold Rep at q
  refine ⟨k, q, ?_⟩
  cases k with
  | false =>
    rw [if_neg Bool.false_ne_true]
    exact ⟨en, sc, hc1, m1, E, _, r.call x1, hp, xo, fun d2 hc2 hp2 v2 H2 m2 x2 q2 => fin d2 hc2 hp2 v2 H2 m2 (x1.trans x2) q2⟩
  | true =>
    rw [if_pos rfl]
    exact fin _ hc1 hp _ H1 m1 x1 rep_bl⟩
theorem ce_not (ha : CE X W a ca) : CE X W (.UnaryOp .Not a pos) (cNotV ca) := ⟨pe_wk (pe_not ha.p) fun σ H Q h => by
  obtain ⟨en, sc, hc, m, E, P, r, c, xo, fin⟩ := h
  refine ⟨en, sc, hc, m, E, _, r, c, xo, fun d hc1 hp v H1 m1 x1 q => ?_⟩
  cases d <;> try exact hp.elim
  unfold Rep at q
  exact ⟨_, q, fin _ hc1 hp _ H1 m1 x1 rep_bl⟩⟩
def cIf (t : CTx) (ca cb : CEx) : CEx := fun E sc hc P => t E sc hc fun b hc1 => if b = true then ca E sc hc1 P else cb E sc hc1 P
theorem ce_if (hc : CT X W c ta) (ha : CE X W a ca) (hb : CE X W b cb) : CE X W (.IfExp c a b pos) (cIf ta ca cb) := ⟨pe_wk (pe_ifExp hc.p ha.p hb.p) fun σ H Q h => by
  obtain ⟨en, sc, hc, m, E, P, r, c, xo, fin⟩ := h
  refine ⟨en, sc, hc, m, E, _, r, c, xo, fun k hc1 hp H1 m1 x1 => ?_⟩
  cases k with
  | true =>
    rw [if_pos rfl] at hp ⊢
    exact ⟨en, sc, hc1, m1, E, _, r.call x1, hp, xo, fun d2 hc2 hp2 v2 H2 m2 x2 q2 => fin d2 hc2 hp2 v2 H2 m2 (x1.trans x2) q2⟩
  | false =>
    rw [if_neg Bool.false_ne_true] at hp ⊢
    exact ⟨en, sc, hc1, m1, E, _, r.call x1, hp, xo, fun d2 hc2 hp2 v2 H2 m2 x2 q2 => fin d2 hc2 hp2 v2 H2 m2 (x1.trans x2) q2⟩⟩
end
end Mn

namespace Mn
open PySem PySem.Spec PyProof.Rows L2
/-! ### arguments -/
abbrev RepBL (K : PySem.W.Frag) (σ : L2.St) (sc : List Sl) (H : Hp) (m : Ms) : List D → List V → Prop := Paired (RepB K σ sc H m)
abbrev RepWL (K : PySem.W.Frag) (H : Hp) (m : Ms) : List D → List V → Prop := Paired (RepW K H m)
def LBA (X : Cx) (W : WX) (c : CAx) : TA := fun σ H Q => ∃ en sc hc m E P, Rs X.K en σ H sc hc m ∧ c E sc hc P ∧ XOk X W en E ∧
  ∀ ds hc', P ds hc' → ∀ vs H' m', Ex X.K ⟨H, hc, m⟩ H' hc' m' → RepBL X.K σ sc H' m' ds vs → Q vs H'
structure CBA (X : Cx) (W : WX) (es : List Expr) (c : CAx) : Prop where
  p : PA X es (LBA X W c)
def cNil : CAx := fun _ _ hc P => P [] hc
def cCons (ca : CEx) (cr : CAx) : CAx := fun E sc hc P => ca E sc hc fun d hc1 => cr E sc hc1 fun ds hc2 => P (d :: ds) hc2
section
variable {X : Cx} {W : WX} {a b e : Expr} {es : List Expr} {ca cb : CEx} {c : CAx} {pos : Pos}
theorem ca_nil : CA X W [] cNil := ⟨pa_wk pa_nil fun σ H Q ⟨en, sc, hc, m, E, P, r, k, xo, fin⟩ => fin _ hc k _ H m (.refl r.toWd) RepL.nil⟩
theorem ca_cons (ha : CE X W e ca) (hr : CA X W es c) (hs : starEach (e :: es) X.env = (false, eval e X.env) :: starEach es X.env := by rfl) : CA X W (e :: es) (cCons ca c) :=
  ⟨pa_wk (pa_cons ha.p hr.p hs) fun σ H Q ⟨en, sc, hc, m, E, P, r, k, xo, fin⟩ =>
    ⟨en, sc, hc, m, E, _, r, k, xo, fun d hc1 hp v H1 m1 x1 q1 => ⟨en, sc, hc1, m1, E, _, r.call x1, hp, xo, fun ds hc2 hp2 vs H2 m2 x2 q2 => fin _ hc2 hp2 _ H2 m2 (x1.trans x2) (RepL.cons (Rep.mono x1.mu x2.stp _ _ q1) q2)⟩⟩⟩
theorem RepBL.mono {K : PySem.W.Frag} {en : En} {σ : L2.St} {sc : List Sl} {H H' : Hp} {hc : CH} {m m' : Ms} (r : Rs K en σ H sc hc m) (s : Stp H m H' m') : ∀ {ds : List D} {vs : List V}, RepBL K σ sc H m ds vs → RepBL K σ sc H' m' ds vs
  | _, _, .nil => .nil
  | _, _, .cons h t => .cons (h.mono r s) (RepBL.mono r s t)
theorem RepBL.w {K : PySem.W.Frag} {en : En} {σ : L2.St} {sc : List Sl} {H : Hp} {hc : CH} {m : Ms} (r : Rs K en σ H sc hc m) : ∀ {ds : List D} {vs : List V}, RepBL K σ sc H m ds vs → RepWL K H m ds vs
  | _, _, .nil => .nil
  | _, _, .cons h t => .cons (h.w r) (RepBL.w r t)
theorem cba_nil : CBA X W [] cNil := ⟨pa_wk pa_nil fun σ H Q ⟨en, sc, hc, m, E, P, r, k, xo, fin⟩ => fin _ hc k _ H m (.refl r.toWd) .nil⟩
theorem cba_cons (ha : CB X W e ca) (hr : CBA X W es c) (hs : starEach (e :: es) X.env = (false, eval e X.env) :: starEach es X.env := by rfl) : CBA X W (e :: es) (cCons ca c) :=
  ⟨pa_wk (pa_cons ha.p hr.p hs) fun σ H Q ⟨en, sc, hc, m, E, P, r, k, xo, fin⟩ =>
    ⟨en, sc, hc, m, E, _, r, k, xo, fun d hc1 hp v H1 m1 x1 q1 => ⟨en, sc, hc1, m1, E, _, r.call x1, hp, xo, fun ds hc2 hp2 vs H2 m2 x2 q2 => fin _ hc2 hp2 _ H2 m2 (x1.trans x2) (.cons (q1.mono (r.call x1) x2.stp) q2)⟩⟩⟩
/-- *e, a tuple or a list -/
def cStar (ca : CEx) (cr : CAx) : CAx := fun E sc hc P => ca E sc hc fun d hc1 => match d with
  | .tup xs => cr E sc hc1 fun ds hc2 => P (xs ++ ds) hc2
  | .lst xs => cr E sc hc1 fun ds hc2 => P (xs ++ ds) hc2
  | _ => False
theorem ca_star {p : Pos} (ha : CE X W e ca) (hr : CA X W es c) : CA X W (.Starred e p :: es) (cStar ca c) :=
  ⟨pa_wk (StX.pa_star ha.p hr.p) fun σ H Q ⟨en, sc, hc, m, E, P, r, k, xo, fin⟩ => by
    refine ⟨en, sc, hc, m, E, _, r, k, xo, fun d hc1 hp v H1 m1 x1 q1 => ?_⟩
    cases d <;> try exact hp.elim
    · unfold Rep at q1
      obtain ⟨p, vs, rfl, q, rl⟩ := q1
      exact ⟨p, vs, rfl, .inl q, en, sc, hc1, m1, E, _, r.call x1, hp, xo, fun ds hc2 hp2 ws H2 m2 x2 q2 => fin _ hc2 hp2 _ H2 m2 (x1.trans x2) ((RepL.mono x1.mu x2.stp _ _ rl).append q2)⟩
    · unfold Rep at q1
      obtain ⟨p, vs, rfl, _, q, rl⟩ := q1
      exact ⟨p, vs, rfl, .inr (.of q), en, sc, hc1, m1, E, _, r.call x1, hp, xo, fun ds hc2 hp2 ws H2 m2 x2 q2 => fin _ hc2 hp2 _ H2 m2 (x1.trans x2) ((RepL.mono x1.mu x2.stp _ _ rl).append q2)⟩⟩

/-! ### displays -/
def cTup (c : CAx) : CEx := fun E sc hc P => c E sc hc fun ds hc1 => ds.length ≤ sizeLine ∧ P (.tup ds) hc1
def cLst (c : CAx) : CEx := fun E sc hc P => c E sc hc fun ds hc1 => ds.length ≤ sizeLine ∧ P (.lst ds) hc1
def updc (hc : CH) (p : Addr) (ds : List D) : CH := fun q => if q = p then some ds else hc q
/-- a list that will be changed -/
def cLstM (c : CAx) : CEx := fun E sc hc P => c E sc hc fun ds hc1 => ds.length ≤ sizeLine ∧ ∀ p, hc1 p = none → P (.ref p) (updc hc1 p ds)
theorem ce_tup {x1 : Nat} (h : CA X W es c) : CE X W (.Tuple es x1 pos) (cTup c) :=
  ⟨pe_wk (pe_tup h.p) fun σ H Q ⟨en, sc, hc, m, E, P, r, k, xo, fin⟩ => ⟨en, sc, hc, m, E, _, r, k, xo, fun ds hc1 hp vs H1 m1 x1 q1 =>
    ⟨by rw [← q1.length]; exact hp.1, fun p n => fin _ hc1 hp.2 _ _ m1 (x1.trans (Ex.same x1.toWd (same_upd n))) (rep_tup x1.mu n q1)⟩⟩⟩
theorem ce_lst (h : CA X W es c) : CE X W (.List es pos) (cLst c) :=
  ⟨pe_wk (pe_lst h.p) fun σ H Q ⟨en, sc, hc, m, E, P, r, k, xo, fin⟩ => ⟨en, sc, hc, m, E, _, r, k, xo, fun ds hc1 hp vs H1 m1 x1 q1 =>
    ⟨by rw [← q1.length]; exact hp.1, fun p n => fin _ hc1 hp.2 _ _ m1 (x1.trans (Ex.same x1.toWd (same_upd n))) (rep_lst x1.mu n q1)⟩⟩⟩
theorem wd_new {K : PySem.W.Frag} {H : Hp} {hc : CH} {m : Ms} {p : Addr} {ds : List D} {vs : List V} (w : Wd K H hc m) (n : H p = none) (q : RepL K H m ds vs) : Ex K ⟨H, hc, m⟩ (upd H p (.lst vs)) (updc hc p ds) (fun a => m a ∨ a = p) := by
  have st : Stp H m (upd H p (.lst vs)) (fun a => m a ∨ a = p) := ⟨fun a o e _ => same_upd n a o e, fun a z => z.elim .inl fun e => .inr (by rw [e]; exact n)⟩
  refine ⟨⟨fun a z => ?_, fun a es e => ?_, fun a es e => ?_⟩, w.mu, w.hm, fun a o e _ => same_upd n a o e, st.grow, fun a z _ => .inl z, fun a es e => ?_, fun a o e => by rw [same_upd n a o e]; simp⟩
  · rcases z with z | rfl
    · obtain ⟨ws, e⟩ := w.mu a z
      exact ⟨ws, same_upd n _ _ e⟩
    · exact ⟨vs, upd_same⟩
  · unfold updc at e
    by_cases h : a = p
    · exact .inr h
    · rw [if_neg h] at e
      exact .inl (w.hm a es e)
  · unfold updc at e
    by_cases h : a = p
    · rw [if_pos h] at e
      cases e
      subst h
      exact ⟨vs, upd_same, RepL.mono w.mu st _ _ q⟩
    · rw [if_neg h] at e
      obtain ⟨ws, e1, q1⟩ := w.heap a es e
      exact ⟨ws, same_upd n _ _ e1, RepL.mono w.mu st _ _ q1⟩
  · unfold updc at e
    by_cases h : a = p
    · rw [h]; exact .inr n
    · rw [if_neg h] at e
      exact .inl (by show hc a ≠ none; rw [e]; simp)
theorem hc_none {K : PySem.W.Frag} {H : Hp} {hc : CH} {m : Ms} {p : Addr} (w : Wd K H hc m) (n : H p = none) : hc p = none := by
  cases e : hc p with
  | none => rfl
  | some ds =>
    obtain ⟨vs, e1, _⟩ := w.heap p ds e
    rw [n] at e1; cases e1
theorem rep_ref {K : PySem.W.Frag} {H : Hp} {m : Ms} {p : Addr} : Rep K H m (.ref p) (.ref p) := by unfold Rep; rfl
theorem ce_lstM (h : CA X W es c) : CE X W (.List es pos) (cLstM c) :=
  ⟨pe_wk (pe_lst h.p) fun σ H Q ⟨en, sc, hc, m, E, P, r, k, xo, fin⟩ => ⟨en, sc, hc, m, E, _, r, k, xo, fun ds hc1 hp vs H1 m1 x1 q1 =>
    ⟨by rw [← q1.length]; exact hp.1, fun p n => by
      have x := wd_new x1.toWd n q1
      exact fin _ _ (hp.2 p (hc_none x1.toWd n)) _ _ _ (x1.trans x) rep_ref⟩⟩⟩

/-! ### subscripts, slices -/
abbrev atD (xs : List D) (i : Int) (P : D → Prop) : Prop := oth (atI xs i) P
def ixD : O2
  | .lst xs, .int i, _, P => atD xs i P
  | .tup xs, .int i, _, P => atD xs i P
  | .str z, .int i, _, P => z.length ≤ sizeLine ∧ oth (atI z.cps.toList i) fun c => P (.str ⟨#[c]⟩)
  | .ref a, .int i, hc, P => oth (hc a) fun xs => oth (atI xs i) P
  | _, _, _, _ => False
theorem atD_get {K : PySem.W.Frag} {H : Hp} {m : Ms} {xs : List D} {vs : List V} {i : Int} {P : D → Prop} (r : RepL K H m xs vs) (h : atD xs i P) : ∃ d v, P d ∧ atI vs i = some v ∧ Rep K H m d v := by
  obtain ⟨d, e, h⟩ := oth_of h
  unfold atI at e
  cases e1 : ixN xs.length i with
  | none => rw [e1] at e; cases e
  | some j =>
    rw [e1] at e
    obtain ⟨v, e2, q⟩ := r.get (i := j) (d := d) e
    refine ⟨d, v, h, ?_, q⟩
    unfold atI
    rw [← r.length, e1]
    exact e2
theorem ix_D : IxR X (LV2 X.K ixD) := by
  intro value slice pins s σ H x y v u Q I rx ry h hs
  obtain ⟨hc, m, dx, dy, P, w, h1, h2, f, fin⟩ := h
  cases dx <;> cases dy <;> try exact f.elim
  · unfold RepW Rep at h1 h2
    subst h1; subst h2
    obtain ⟨hz, f⟩ := f
    obtain ⟨c, e, f⟩ := oth_of f
    exact ix_str value slice pins s σ H _ _ v u Q I rx ry ⟨_, _, c, rfl, rfl, hz, e, fin _ f _ _ (.refl H) rep_str⟩ hs
  · unfold RepW Rep at h1 h2
    obtain ⟨p, vs, rfl, q, r⟩ := h1
    subst h2
    obtain ⟨d, z, pd, e, rz⟩ := atD_get r f
    exact ix_tup value slice pins s σ H _ _ v u Q I rx ry ⟨p, vs, _, z, rfl, rfl, q, e, fin _ pd _ _ (.refl H) rz⟩ hs
  · unfold RepW at h1 h2
    unfold Rep at h2
    obtain ⟨p, vs, rfl, q, r⟩ := h1
    subst h2
    obtain ⟨d, z, pd, e, rz⟩ := atD_get r f
    exact ix_list value slice pins s σ H _ _ v u Q I rx ry ⟨p, vs, _, z, rfl, rfl, .of q, e, fin _ pd _ _ (.refl H) rz⟩ hs
  · unfold RepW Rep at h1 h2
    subst h1; subst h2
    obtain ⟨xs, e0, f'⟩ := oth_of f
    obtain ⟨vs, q, r⟩ := w.heap _ _ e0
    obtain ⟨d, z, pd, e, rz⟩ := atD_get r f'
    exact ix_list value slice pins s σ H _ _ v u Q I rx ry ⟨_, vs, _, z, rfl, rfl, .of q, e, fin _ pd _ _ (.refl H) rz⟩ hs
theorem ce_ix (ha : CB X W a ca) (hb : CE X W b cb) (hs : PlainIx b := by first | exact fun _ _ => rfl) : CE X W (.Subscript a b pos) (cOp ixD ca cb) := ⟨pe_wk (pe_ix ix_D ha.p hb.bo.p hs) fun σ H Q h => op_lift h⟩
/-- a part of a slice -/
abbrev COx := XP → List Sl → CH → (Option Int → CH → Prop) → Prop
def LO (X : Cx) (W : WX) (c : COx) : TO := fun σ H Q => ∃ en sc hc m E P, Rs X.K en σ H sc hc m ∧ c E sc hc P ∧ XOk X W en E ∧
  ∀ i hc', P i hc' → ∀ H' m', Ex X.K ⟨H, hc, m⟩ H' hc' m' → Q i H'
structure CO (X : Cx) (W : WX) (e : Option Expr) (c : COx) : Prop where
  p : PO X e (LO X W c)
theorem po_wk {X : Cx} {e : Option Expr} {t t' : TO} (h : PO X e t) (g : ∀ σ H Q, t' σ H Q → t σ H Q) : PO X e t' := ⟨fun pins s σ H Q I q => h.run pins s σ H Q I (g σ H Q q)⟩
def cNoP : COx := fun _ _ hc P => P none hc
def cSoP (c : CEx) : COx := fun E sc hc P => c E sc hc fun d hc1 => match d with | .int i => P (some i) hc1 | _ => False
theorem co_none : CO X W none cNoP := ⟨po_wk po_none fun σ H Q ⟨en, sc, hc, m, E, P, r, k, xo, fin⟩ => fin _ hc k H m (.refl r.toWd)⟩
theorem co_some (h : CE X W e ca) : CO X W (some e) (cSoP ca) := ⟨po_wk (po_some h.p) fun σ H Q ⟨en, sc, hc, m, E, P, r, k, xo, fin⟩ =>
  ⟨en, sc, hc, m, E, _, r, k, xo, fun d hc1 hp v H1 m1 x1 q1 => by
    cases d <;> try exact hp.elim
    unfold Rep at q1
    exact ⟨_, q1, fin _ hc1 hp H1 m1 x1⟩⟩⟩
def cutX {α : Type} (xs : List α) (lo hi : Option Int) : List α := (xs.drop (HT.sIx xs.length 0 lo)).take (HT.sIx xs.length xs.length hi - HT.sIx xs.length 0 lo)
theorem RepL.cut {K : PySem.W.Frag} {H : Hp} {m : Ms} {ds : List D} {vs : List V} (h : RepL K H m ds vs) (lo hi : Option Int) : RepL K H m (cutX ds lo hi) (cutV vs lo hi) := by
  unfold cutX cutV
  rw [h.length]
  exact (h.drop _).take _
def slD (x : D) (lo hi : Option Int) (hc : CH) (P : D → Prop) : Prop := match x with
  | .lst xs => P (.lst (cutX xs lo hi))
  | .frz xs => P (.lst (cutX xs lo hi))
  | .tup xs => P (.tup (cutX xs lo hi))
  | .str z => z.length ≤ sizeLine ∧ P (.str (cutS z lo hi))
  | .ref a => oth (hc a) fun xs => P (.lst (cutX xs lo hi))
  | _ => False
def LVS (K : PySem.W.Frag) : V → Option Int → Option Int → Hp → VK → Prop := fun x lo hi H Q => ∃ hc m dx P, Wd K H hc m ∧ RepW K H m dx x ∧ slD dx lo hi hc P ∧ ∀ d, P d → ∀ v H', Same H H' → Rep K H' m d v → Q v H'
theorem cutX_all {α : Type} {xs : List α} {lo hi : Option Int} (h : HT.sIx xs.length 0 lo = 0 ∧ HT.sIx xs.length xs.length hi = xs.length) : cutX xs lo hi = xs := by
  unfold cutX
  rw [h.1, h.2]
  simp
theorem sl_D : SlR X (LVS X.K) := by
  intro pins s σ H x v vl vu lo hi sl Q I rx hs pl pu h
  obtain ⟨hc, m, dx, P, w, h1, f, fin⟩ := h
  cases dx <;> try exact f.elim
  · unfold RepW Rep at h1
    subst h1
    exact sl_str pins s σ H _ v vl vu lo hi sl Q I rx hs pl pu ⟨_, rfl, f.1, fin _ f.2 _ _ (.refl H) rep_str⟩
  · rename_i xs
    unfold RepW Rep at h1
    obtain ⟨p, vs, rfl, q, r⟩ := h1
    refine sl_tupA pins s σ H _ v vl vu lo hi sl Q I rx hs pl pu ⟨p, vs, rfl, q, fun z => fin _ f _ _ (.refl H) ?_, fun _ a n => fin _ f _ _ (same_upd n) (rep_tup w.mu n (r.cut lo hi))⟩
    have l := r.length
    rw [cutX_all (by rw [l]; exact z)]
    unfold Rep
    exact ⟨p, vs, rfl, q, r⟩
  · unfold RepW at h1
    obtain ⟨p, vs, rfl, q, r⟩ := h1
    exact sl_list pins s σ H _ v vl vu lo hi sl Q I rx hs pl pu ⟨p, vs, rfl, .of q, fun a n => fin _ f _ _ (same_upd n) (rep_lst w.mu n (r.cut lo hi))⟩
  · unfold RepW Rep at h1
    subst h1
    obtain ⟨xs, e0, f'⟩ := oth_of f
    obtain ⟨vs, q, r⟩ := w.heap _ _ e0
    exact sl_list pins s σ H _ v vl vu lo hi sl Q I rx hs pl pu ⟨_, vs, rfl, .of q, fun a n => fin _ f' _ _ (same_upd n) (rep_lst w.mu n (r.cut lo hi))⟩
  · unfold RepW Rep at h1
    obtain ⟨p, vs, rfl, q, r⟩ := h1
    exact sl_list pins s σ H _ v vl vu lo hi sl Q I rx hs pl pu ⟨p, vs, rfl, q.sq, fun a n => fin _ f _ _ (same_upd n) (rep_lst w.mu n (r.cut lo hi))⟩
def cSl (ca : CEx) (cl ch : COx) : CEx := fun E sc hc P => ca E sc hc fun x hc1 => cl E sc hc1 fun l hc2 => ch E sc hc2 fun u hc3 => slD x l u hc3 fun d => P d hc3
theorem ce_sl {lo hi : Option Expr} {cl ch : COx} {p2 : Pos} (ha : CB X W a ca) (hl : CO X W lo cl) (hu : CO X W hi ch) : CE X W (.Subscript a (.Slice lo hi none p2) pos) (cSl ca cl ch) :=
  ⟨pe_wk (pe_slice sl_D ha.p hl.p hu.p) fun σ H Q ⟨en, sc, hc, m, E, P, r, k, xo, fin⟩ =>
    ⟨en, sc, hc, m, E, _, r, k, xo, fun x hc1 hp v H1 m1 x1 q1 => ⟨en, sc, hc1, m1, E, _, r.call x1, hp, xo, fun l hc2 hp2 H2 m2 x2 => ⟨en, sc, hc2, m2, E, _, (r.call x1).call x2, hp2, xo, fun u hc3 hp3 H3 m3 x3 =>
      ⟨hc3, m3, x, _, x3.toWd, ((q1.mono (r.call x1) x2.stp).mono ((r.call x1).call x2) x3.stp).w (((r.call x1).call x2).call x3), hp3, fun d pd v' H' sm q => fin d hc3 pd v' H' m3 (x1.trans (x2.trans (x3.trans (Ex.same x3.toWd sm)))) q⟩⟩⟩⟩⟩

/-! ### calls -/
def LVn (K : PySem.W.Frag) (f : On) : List V → Hp → VK → Prop := fun xs H Q => ∃ hc m ds P, Wd K H hc m ∧ RepWL K H m ds xs ∧ f ds hc P ∧ ∀ d, P d → ∀ v H', Same H H' → Rep K H' m d v → Q v H'
def cFn (f : On) (c : CAx) : CEx := fun E sc hc P => c E sc hc fun ds hc1 => f ds hc1 fun d => P d hc1
theorem fn_lift {f : On} {σ : L2.St} {H : Hp} {Q : VK} (h : LE X W (cFn f c) σ H Q) : LBA X W c σ H fun xs H1 => LVn X.K f xs H1 Q := by
  obtain ⟨en, sc, hc, m, E, P, r, k, xo, fin⟩ := h
  exact ⟨en, sc, hc, m, E, _, r, k, xo, fun ds hc1 hp vs H1 m1 x1 q1 => ⟨hc1, m1, ds, _, x1.toWd, q1.w (r.call x1), hp, fun d pd v' H' sm q => fin d hc1 pd v' H' m1 (x1.trans (Ex.same x1.toWd sm)) q⟩⟩
theorem ce_bf {x : Str} {id : String} {f : On} {p : Pos} (hc : CallR X (.builtin id) (LVn X.K f)) (hm : X.mg x = none) (ha : CBA X W (e :: es) c) (hg : Gl X x := by rfl) (hv : bootBuiltins x = some (.builtin id) := by decide +kernel) (hn : x ≠ "__name__" := by decide) (hdb : (x == ("__debug__" : Str)) = false := by decide)
    (he : starEach (e :: es) X.env = (false, eval e X.env) :: starEach es X.env := by rfl) (hpl : (backTo pos (starEach es X.env)).any (·.1) = false := by rfl) : CE X W (.Call (.Name x p) (e :: es) [] pos) (cFn f c) :=
  ⟨pe_wk (pe_callB hc hg hm hv ha.p hn hdb he hpl) fun σ H Q h => fn_lift h⟩
theorem ce_bt {x : Str} {id : String} {f : On} {p : Pos} (hc : CallR X (.type id) (LVn X.K f)) (hm : X.mg x = none) (ha : CBA X W (e :: es) c) (hg : Gl X x := by rfl) (hv : bootBuiltins x = some (.type id) := by decide +kernel) (hn : x ≠ "__name__" := by decide) (hdb : (x == ("__debug__" : Str)) = false := by decide)
    (he : starEach (e :: es) X.env = (false, eval e X.env) :: starEach es X.env := by rfl) (hpl : (backTo pos (starEach es X.env)).any (·.1) = false := by rfl) : CE X W (.Call (.Name x p) (e :: es) [] pos) (cFn f c) :=
  ⟨pe_wk (pe_callTy hc hg hm hv ha.p hn hdb he hpl) fun σ H Q h => fn_lift h⟩

/-- a def's promise in clean words -/
abbrev Spc := List D → CH → (D → CH → Prop) → (Exn → CH → Prop) → Prop
def RepXK (K : PySem.W.Frag) (mg : Str → Option Value) (H : Hp) (m : Ms) (x : Exn) (cls : Value) (d : Option Addr) : Prop :=
  mg x.cls = some cls ∧ ((x.fs = [] ∧ d = none) ∨ ∃ dx fs, d = some dx ∧ H dx = some (.xd fs) ∧ fs.map (·.1) = x.fs.map (·.1) ∧ RepL K H m (x.fs.map (·.2)) (fs.map (·.2)))
def toSp (K : PySem.W.Frag) (mg : Str → Option Value) (sp : Spc) : Sp := fun vs H Q E => ∃ hc m ds P PE, Wd K H hc m ∧ RepL K H m ds vs ∧ sp ds hc P PE ∧
  (∀ d hc', P d hc' → ∀ v H' m', Ex K ⟨H, hc, m⟩ H' hc' m' → Rep K H' m' d v → Q v H') ∧
  (∀ x hc', PE x hc' → ∀ cls dx H' m', Ex K ⟨H, hc, m⟩ H' hc' m' → RepXK K mg H' m' x cls dx → E cls dx H')
def cCall (sp : Spc) (c : CAx) : CEx := fun E sc hc P => c E sc hc fun ds hc1 => sp ds hc1 P fun _ _ => False
theorem ce_call {x : Str} {p : Pos} {k : Nat} {f : Addr} {fd : FuncData} {ps : List Str} {sp : Spc} (F : FnG X.prog X.w X.K X.mg X.base CX0 k f fd ps (toSp X.K X.mg sp)) (hr : RG k X.A) (hm : X.mg x = some (.ref f)) (hk : PySem.W.keepIn X.K (.ref f) = true) (hb : Binds X.K fd ps [])
    (ha : CA X W (e :: es) c) (hg : Gl X x := by rfl) (hdb : (x == ("__debug__" : Str)) = false := by decide) (he : starEach (e :: es) X.env = (false, eval e X.env) :: starEach es X.env := by rfl) (hpl : (backTo pos (starEach es X.env)).any (·.1) = false := by rfl) : CE X W (.Call (.Name x p) (e :: es) [] pos) (cCall sp c) :=
  ⟨pe_wk (pe_callG F hr hg hm hk hb .nil pass0 ha.p hdb he hpl) fun σ H Q ⟨en, sc, hc, m, E, P, r, k, xo, fin⟩ =>
    ⟨en, sc, hc, m, E, _, r, k, xo, fun ds hc1 hp vs H1 m1 x1 q1 => by
      show toSp X.K X.mg sp (vs ++ []) H1 Q E0
      rw [List.append_nil]
      exact ⟨hc1, m1, ds, P, _, x1.toWd, q1, hp, fun d hc' pd v' H' m' x q => fin d hc' pd v' H' m' (x1.trans x) q, fun _ _ z => z.elim⟩⟩⟩
end
end Mn

namespace Mn
open PySem PySem.Spec PyProof.Rows L2
/-- what is wanted behind a statement -/
structure CEnds where
  nx : List Sl → CH → Prop
  rt : D → CH → Prop
  bk : List Sl → CH → Prop := fun _ _ => False
  ct : List Sl → CH → Prop := fun _ _ => False
  xp : XP := fun _ _ _ => False
abbrev CSx := CEnds → List Sl → CH → Prop
abbrev Goes (X : Cx) (en : En) (H : Hp) (m : Ms) (P : List Sl → CH → Prop) (Q : L2.St → Hp → Prop) : Prop :=
  ∀ sc' hc', P sc' hc' → ∀ σ' H' m', Rs X.K en σ' H' sc' hc' m' → Stp H m H' m' → Q σ' H'
structure EndOk (X : Cx) (W : WX) (en : En) (H : Hp) (m : Ms) (C : CEnds) (D : Ends) : Prop where
  nx : Goes X en H m C.nx D.nx
  bk : Goes X en H m C.bk D.bk
  ct : Goes X en H m C.ct D.ct
  rt : ∀ d hc', C.rt d hc' → ∀ v H' m', Ex X.K en H' hc' m' → Rep X.K H' m' d v → D.rt v H'
  xp : XOk X W en C.xp
theorem Goes.step {X : Cx} {en : En} {H H1 : Hp} {m m1 : Ms} {P : List Sl → CH → Prop} {Q : L2.St → Hp → Prop} (g : Goes X en H m P Q) (s : Stp H m H1 m1) : Goes X en H1 m1 P Q := fun sc' hc' p σ' H' m' r s' => g sc' hc' p σ' H' m' r (s.trans s')
theorem EndOk.step {X : Cx} {W : WX} {en : En} {H H1 : Hp} {m m1 : Ms} {C : CEnds} {D : Ends} (g : EndOk X W en H m C D) (s : Stp H m H1 m1) : EndOk X W en H1 m1 C D := ⟨g.nx.step s, g.bk.step s, g.ct.step s, g.rt, g.xp⟩
def LS (X : Cx) (W : WX) (c : CSx) : TS := fun D σ H => ∃ en sc hc m C, Rs X.K en σ H sc hc m ∧ c C sc hc ∧ EndOk X W en H m C D
structure CS (X : Cx) (W : WX) (st : Stmt) (c : CSx) : Prop where
  p : PS X st (LS X W c)
structure CSs (X : Cx) (W : WX) (st : List Stmt) (c : CSx) : Prop where
  p : PSs X st (LS X W c)
theorem ps_wk {X : Cx} {e : Stmt} {t t' : TS} (h : PS X e t) (g : ∀ D σ H, t' D σ H → t D σ H) : PS X e t' := ⟨fun pins s σ H Q I q => h.run pins s σ H Q I (g Q σ H q)⟩
theorem pss_wk {X : Cx} {e : List Stmt} {t t' : TS} (h : PSs X e t) (g : ∀ D σ H, t' D σ H → t D σ H) : PSs X e t' := ⟨fun pins s σ H Q I q => h.run pins s σ H Q I (g Q σ H q)⟩
section
variable {X : Cx} {W : WX} {st : Stmt} {rest body ob : List Stmt} {c c1 c2 : CSx} {e tg iter : Expr} {es : List Expr} {ce : CEx} {ct : CTx} {ca : CAx} {pos : Pos}
def cNext : CSx := fun C sc hc => C.nx sc hc
def cSeq (c1 c2 : CSx) : CSx := fun C sc hc => c1 { C with nx := fun sc1 hc1 => c2 C sc1 hc1 } sc hc
theorem css_nil : CSs X W [] cNext := ⟨pss_wk pss_nil fun D σ H ⟨en, sc, hc, m, C, r, k, f⟩ => f.nx sc hc k σ H m r .refl⟩
theorem css_cons (h1 : CS X W st c1) (h2 : CSs X W rest c2) : CSs X W (st :: rest) (cSeq c1 c2) := ⟨pss_wk (pss_cons h1.p h2.p) fun D σ H ⟨en, sc, hc, m, C, r, k, f⟩ =>
  ⟨en, sc, hc, m, _, r, k, fun sc' hc' p σ' H' m' r' s' => ⟨en, sc', hc', m', C, r', p, f.step s'⟩, f.bk, f.ct, f.rt, f.xp⟩⟩
theorem css_one (h1 : CS X W st c1) : CSs X W [st] c1 := ⟨pss_one h1.p⟩
theorem cs_pass : CS X W (.Pass pos) cNext := ⟨ps_wk ps_pass fun D σ H ⟨en, sc, hc, m, C, r, k, f⟩ => f.nx sc hc k σ H m r .refl⟩
def cBrk : CSx := fun C sc hc => C.bk sc hc
def cCnt : CSx := fun C sc hc => C.ct sc hc
theorem cs_break : CS X W (.Break pos) cBrk := ⟨ps_wk ps_break fun D σ H ⟨en, sc, hc, m, C, r, k, f⟩ => f.bk sc hc k σ H m r .refl⟩
theorem cs_continue : CS X W (.Continue pos) cCnt := ⟨ps_wk ps_continue fun D σ H ⟨en, sc, hc, m, C, r, k, f⟩ => f.ct sc hc k σ H m r .refl⟩
theorem cs_doc {x : Str} {j : Nat} {p2 : Pos} : CS X W (.Expr (.Constant (.str x) j p2) pos) cNext := ⟨ps_wk ps_doc fun D σ H ⟨en, sc, hc, m, C, r, k, f⟩ => f.nx sc hc k σ H m r .refl⟩
def cDrop (ce : CEx) : CSx := fun C sc hc => ce C.xp sc hc fun _ hc1 => C.nx sc hc1
theorem cs_expr (h : CE X W e ce) (hs : swapsWith e none pos.line X.env = pure false := by rfl) : CS X W (.Expr e pos) (cDrop ce) := ⟨ps_wk (ps_expr h.p hs) fun D σ H ⟨en, sc, hc, m, C, r, k, f⟩ =>
  ⟨en, sc, hc, m, C.xp, _, r, k, f.xp, fun d hc1 p v H1 m1 x1 _ => f.nx sc hc1 p σ H1 m1 (r.call x1) x1.stp⟩⟩
/-- the owned list of a slot given away -/
theorem Ex.drop {K : PySem.W.Frag} {en : En} {H : Hp} {hc : CH} {m : Ms} (x : Ex K en H hc m) {p : Addr} (h0 : en.H p = none) (h1 : hc p = none) : Ex K en H hc (fun a => m a ∧ a ≠ p) ∧ Stp H m H (fun a => m a ∧ a ≠ p) := by
  have st : Stp H m H (fun a => m a ∧ a ≠ p) := ⟨fun _ _ h _ => h, fun _ h => .inl h.1⟩
  refine ⟨⟨⟨fun a z => x.mu a z.1, fun a ds e => ⟨x.hm a ds e, fun z => by rw [z, h1] at e; cases e⟩, fun a ds e => ?_⟩, x.emut, x.ehm, x.keep, fun a z => x.grow a z.1, fun a z n => ⟨x.hold a z n, fun y => ?_⟩, x.hgrow, x.live⟩, st⟩
  · obtain ⟨vs, e1, q⟩ := x.heap a ds e
    exact ⟨vs, e1, RepL.mono x.mu st _ _ q⟩
  · obtain ⟨vs, e⟩ := x.emut a z
    rw [y, h0] at e; cases e
def cRet (ce : CEx) : CSx := fun C sc hc => ce C.xp sc hc fun d hc1 => C.rt d hc1
theorem cs_ret (h : CB X W e ce) : CS X W (.Return (some e) pos) (cRet ce) := ⟨ps_wk (ps_ret h.p) fun D σ H ⟨en, sc, hc, m, C, r, k, f⟩ =>
  ⟨en, sc, hc, m, C.xp, _, r, k, f.xp, fun d hc1 p v H1 m1 x1 q => by
    have r1 := r.call x1
    rcases q with q | ⟨i, ds, e1, rfl, e2⟩
    · exact f.rt d hc1 p v H1 m1 r1.toEx q
    · obtain ⟨a, vs, e3, ma, h0, h1, e4, q⟩ := r1.own i ds e1
      rw [e2] at e3
      cases e3
      obtain ⟨x, st⟩ := r1.toEx.drop h0 h1
      refine f.rt _ hc1 p _ H1 _ x ?_
      unfold Rep
      exact ⟨a, vs, rfl, fun z => z.2 rfl, e4, RepL.mono r1.mu st _ _ q⟩⟩⟩
def cRetN : CSx := fun C _ hc => C.rt .non hc
theorem cs_retN : CS X W (.Return none pos) cRetN := ⟨ps_wk ps_retN fun D σ H ⟨en, sc, hc, m, C, r, k, f⟩ => f.rt _ hc k _ H m r.toEx rep_non⟩
def cIfS (t : CTx) (c1 c2 : CSx) : CSx := fun C sc hc => t C.xp sc hc fun b hc1 => if b = true then c1 C sc hc1 else c2 C sc hc1
theorem cs_if (ht : CT X W e ct) (h1 : CSs X W body c1) (h2 : CSs X W ob c2) : CS X W (.If e body ob pos) (cIfS ct c1 c2) := ⟨ps_wk (ps_if ht.p h1.p h2.p) fun D σ H ⟨en, sc, hc, m, C, r, k, f⟩ =>
  ⟨en, sc, hc, m, C.xp, _, r, k, f.xp, fun b hc1 p H1 m1 x1 => by
    have r1 := r.call x1
    have s1 := x1.stp
    cases b with
    | true =>
      rw [if_pos rfl] at p
      exact iteT ⟨en, sc, hc1, m1, C, r1, p, f.step s1⟩
    | false =>
      rw [if_neg Bool.false_ne_true] at p
      exact iteF ⟨en, sc, hc1, m1, C, r1, p, f.step s1⟩⟩⟩

/-! ### targets -/
abbrev CGx := XP → D → List Sl → CH → (List Sl → CH → Prop) → Prop
def LG (X : Cx) (W : WX) (g : CGx) : TG := fun v σ H Q => ∃ en sc hc m E d P, Rs X.K en σ H sc hc m ∧ Rep X.K H m d v ∧ g E d sc hc P ∧ XOk X W en E ∧ Goes X en H m P Q
structure CG (X : Cx) (W : WX) (e : Expr) (g : CGx) : Prop where
  p : PG X e (LG X W g)
abbrev CGsx := XP → List D → List Sl → CH → (List Sl → CH → Prop) → Prop
def LGs (X : Cx) (W : WX) (g : CGsx) : TGs := fun vs σ H Q => ∃ en sc hc m E ds P, Rs X.K en σ H sc hc m ∧ RepL X.K H m ds vs ∧ g E ds sc hc P ∧ XOk X W en E ∧ Goes X en H m P Q
structure CGs (X : Cx) (W : WX) (es : List Expr) (g : CGsx) : Prop where
  p : PGs X es (LGs X W g)
theorem pg_wk {X : Cx} {e : Expr} {t t' : TG} (h : PG X e t) (g : ∀ v σ H Q, t' v σ H Q → t v σ H Q) : PG X e t' := ⟨fun pins s σ H v u Q I r q => h.run pins s σ H v u Q I r (g v σ H Q q)⟩
theorem pgs_wk {X : Cx} {e : List Expr} {t t' : TGs} (h : PGs X e t) (g : ∀ v σ H Q, t' v σ H Q → t v σ H Q) : PGs X e t' := ⟨fun pins s σ H v u Q I r q => h.run pins s σ H v u Q I r (g v σ H Q q)⟩
theorem Rs.put {K : PySem.W.Frag} {en : En} {σ : L2.St} {H : Hp} {sc : List Sl} {hc : CH} {m : Ms} (r : Rs K en σ H sc hc m) (i : Nat) {d : D} {v : V} (q : Rep K H m d v) : Rs K en (σ.set i (some v)) H (sc.set i (.val d)) hc m := by
  have ne : ∀ (j : Nat) (ds : List D), (sc.set i (.val d))[j]? = some (Sl.own ds) → j ≠ i ∧ sc[j]? = some (Sl.own ds) := fun j ds e => by
    by_cases h : i = j
    · subst h
      by_cases l : i < sc.length
      · rw [List.getElem?_set_self l] at e; cases e
      · rw [List.getElem?_eq_none (by rw [List.length_set]; omega)] at e; cases e
    · rw [List.getElem?_set_ne h] at e
      exact ⟨fun z => h z.symm, e⟩
  refine ⟨r.toEx, fun j d' e => ?_, fun j ds e => ?_, fun j l ds es p e1 e2 e3 e4 => ?_, by rw [List.length_set, List.length_set]; exact r.len⟩
  · by_cases h : i = j
    · subst h
      by_cases l : i < sc.length
      · rw [List.getElem?_set_self l] at e; cases e
        exact ⟨v, List.getElem?_set_self (by rw [← r.len]; exact l), q⟩
      · rw [List.getElem?_eq_none (by rw [List.length_set]; omega)] at e; cases e
    · rw [List.getElem?_set_ne h] at e ⊢
      exact r.slot j d' e
  · obtain ⟨h, e'⟩ := ne j ds e
    rw [List.getElem?_set_ne (Ne.symm h)]
    exact r.own j ds e'
  · obtain ⟨h1, f1⟩ := ne j ds e1
    obtain ⟨h2, f2⟩ := ne l es e2
    rw [List.getElem?_set_ne (Ne.symm h1)] at e3
    rw [List.getElem?_set_ne (Ne.symm h2)] at e4
    exact r.sep j l ds es p f1 f2 e3 e4
def gN (i : Nat) : CGx := fun _ d sc hc P => P (sc.set i (.val d)) hc
theorem cg_n (i : Nat) {x : Str} (hN : X.N.Nodup) (hi : X.N[i]? = some x := by rfl) (hx : Loc X.env.scope x := by first | exact Or.inl rfl | exact Or.inr rfl) (hf : X.fn x = true ∨ X.env.scope.names.lookup x = some .local := by first | exact .inl rfl | exact .inr rfl) : CG X W (.Name x pos) (gN i) :=
  ⟨pg_wk (pg_name hN hi hx hf) fun v σ H Q ⟨en, sc, hc, m, E, d, P, r, q, k, xo, f⟩ => f _ hc k _ H m (r.put i q) .refl⟩
def gNil' : CGsx := fun _ ds sc hc P => match ds with | [] => P sc hc | _ => False
def gCons' (g : CGx) (gs : CGsx) : CGsx := fun E ds sc hc P => match ds with | d :: r => g E d sc hc fun sc1 hc1 => gs E r sc1 hc1 P | [] => False
theorem cgs_nil : CGs X W [] gNil' := ⟨pgs_wk pgs_nil fun vs σ H Q ⟨en, sc, hc, m, E, ds, P, r, q, k, xo, f⟩ => by
  cases ds with
  | nil => unfold RepL at q; subst q; exact ⟨rfl, f sc hc k σ H m r .refl⟩
  | cons d ds => exact k.elim⟩
theorem cgs_cons {g : CGx} {gs : CGsx} (h1 : CG X W e g) (h2 : CGs X W es gs) (hs : (assignEach (e :: es) X.env).map (·.2) = assign e X.env :: (assignEach es X.env).map (·.2) := by rfl) : CGs X W (e :: es) (gCons' g gs) :=
  ⟨pgs_wk (pgs_cons h1.p h2.p hs) fun vs σ H Q ⟨en, sc, hc, m, E, ds, P, r, q, k, xo, f⟩ => by
    cases ds with
    | nil => exact k.elim
    | cons d ds =>
      unfold RepL at q
      obtain ⟨v, vr, rfl, q1, q2⟩ := q
      exact ⟨v, vr, rfl, en, sc, hc, m, E, d, _, r, q1, k, xo, fun sc1 hc1 k1 σ1 H1 m1 r1 s1 => ⟨en, sc1, hc1, m1, E, ds, P, r1, RepL.mono r.mu s1 _ _ q2, k1, xo, f.step s1⟩⟩⟩
/-- unpacking a tuple -/
def gTup' (n : Nat) (gs : CGsx) : CGx := fun E d sc hc P => match d with | .tup xs => xs.length = n ∧ gs E xs sc hc P | _ => False
theorem cg_t {gs : CGsx} {n k : Nat} (hc : X.calm = true) (h : CGs X W es gs) (hn : (assignEach es X.env).length = n := by rfl) (hst : (assignEach es X.env).findIdx? (·.1) = none := by rfl) : CG X W (.Tuple es k pos) (gTup' n gs) :=
  ⟨pg_wk (pg_tup hc h.p hn hst) fun v σ H Q ⟨en, sc, hc, m, E, d, P, r, q, k, xo, f⟩ => by
    cases d <;> try exact k.elim
    unfold Rep at q
    obtain ⟨p, vs, rfl, q1, q2⟩ := q
    exact ⟨p, vs, rfl, q1, by rw [← q2.length]; exact k.1, en, sc, hc, m, E, _, P, r, q2, k.2, xo, f⟩⟩
/-- unpacking a list -/
def gUnl' (n : Nat) (gs : CGsx) : CGx := fun E d sc hc P => match d with
  | .lst xs => xs.length = n ∧ gs E xs sc hc P
  | .ref a => oth (hc a) fun xs => xs.length = n ∧ gs E xs sc hc P
  | _ => False
theorem cg_l {gs : CGsx} {n k : Nat} (hc : X.calm = true) (h : CGs X W es gs) (hn : (assignEach es X.env).length = n := by rfl) (hst : (assignEach es X.env).findIdx? (·.1) = none := by rfl) : CG X W (.Tuple es k pos) (gUnl' n gs) :=
  ⟨pg_wk (pg_unl hc h.p hn hst) fun v σ H Q ⟨en, sc, hc, m, E, d, P, r, q, k, xo, f⟩ => by
    cases d <;> try exact k.elim
    · unfold Rep at q
      obtain ⟨p, vs, rfl, _, q1, q2⟩ := q
      exact ⟨p, vs, rfl, .of q1, by rw [← q2.length]; exact k.1, en, sc, hc, m, E, _, P, r, q2, k.2, xo, f⟩
    · unfold Rep at q
      subst q
      obtain ⟨xs, e, l, k⟩ := oth_of k
      obtain ⟨vs, q1, q2⟩ := r.heap _ _ e
      exact ⟨_, vs, rfl, .of q1, by rw [← q2.length]; exact l, en, sc, hc, m, E, _, P, r, q2, k, xo, f⟩⟩
/-- a change of a mutable list that is no slot's own -/
theorem Rs.chg {K : PySem.W.Frag} {en : En} {σ : L2.St} {H : Hp} {sc : List Sl} {hc : CH} {m : Ms} (r : Rs K en σ H sc hc m) {a : Addr} {ds es : List D} {ws : List V} (h : hc a = some ds) (q : RepL K H m es ws) :
    Rs K en σ (upd H a (.lst ws)) sc (updc hc a es) m ∧ Stp H m (upd H a (.lst ws)) m := by
  have ma := r.hm a ds h
  have st : Stp H m (upd H a (.lst ws)) m := ⟨fun p o e n => by rw [upd_ne (fun z => n (by rw [z]; exact ma))]; exact e, fun _ h => .inl h⟩
  refine ⟨⟨⟨⟨fun p z => ?_, fun p ds' e => ?_, fun p ds' e => ?_⟩, r.emut, r.ehm, fun p o e n => ?_, r.grow, r.hold, fun p ds' e => ?_, fun p o e => ?_⟩, fun i d e => ?_, fun i ds' e => ?_, r.sep, r.len⟩, st⟩
  · by_cases hp : p = a
    · subst hp; exact ⟨ws, upd_same⟩
    · rw [upd_ne hp]; exact r.mu p z
  · unfold updc at e
    by_cases hp : p = a
    · rw [hp]; exact ma
    · rw [if_neg hp] at e; exact r.hm p ds' e
  · unfold updc at e
    by_cases hp : p = a
    · rw [if_pos hp] at e; cases e
      subst hp
      exact ⟨ws, upd_same, RepL.mono r.mu st _ _ q⟩
    · rw [if_neg hp] at e
      obtain ⟨vs, e1, q1⟩ := r.heap p ds' e
      exact ⟨vs, by rw [upd_ne hp]; exact e1, RepL.mono r.mu st _ _ q1⟩
  · rw [upd_ne ?_]
    · exact r.keep p o e n
    · rintro rfl
      rcases r.hgrow p ds h with y | y
      · exact y n
      · rw [e] at y; cases y
  · unfold updc at e
    by_cases hp : p = a
    · rw [hp]; exact r.hgrow a ds h
    · rw [if_neg hp] at e; exact r.hgrow p ds' e
  · by_cases hp : p = a
    · subst hp; rw [upd_same]; simp
    · rw [upd_ne hp]; exact r.live p o e
  · obtain ⟨v, e1, q1⟩ := r.slot i d e
    exact ⟨v, e1, Rep.mono r.mu st _ _ q1⟩
  · obtain ⟨p, vs, e1, mp, ep, hp, eH, q1⟩ := r.own i ds' e
    have hpa : p ≠ a := fun z => by rw [z, h] at hp; cases hp
    exact ⟨p, vs, e1, mp, ep, by unfold updc; rw [if_neg hpa]; exact hp, by rw [upd_ne hpa]; exact eH, RepL.mono r.mu st _ _ q1⟩
def gSub' (co ci : CEx) : CGx := fun E d sc hc P => co E sc hc fun o hc1 => ci E sc hc1 fun i hc2 => match o, i with
  | .ref a, .int k => oth (hc2 a) fun ds => oth (ixN ds.length k) fun j => P sc (updc hc2 a (ds.set j d))
  | _, _ => False
theorem cg_s {o i : Expr} {co ci : CEx} (ho : CE X W o co) (hi : CE X W i ci) (ha : ∀ v, assign (.Subscript o i pos) X.env v = (do
      let ov ← holding [v] (eval o X.env)
      let iv ← holding [v, ov] (eval i X.env)
      standAt pos
      holding [v, ov, iv] (setItem ov iv v)
      release [v, ov, iv] []) := by intro _; rfl) : CG X W (.Subscript o i pos) (gSub' co ci) :=
  ⟨pg_wk (pg_sub ho.p hi.p set_list ha) fun v σ H Q ⟨en, sc, hc, m, E, d, P, r, q, k, xo, f⟩ =>
    ⟨en, sc, hc, m, E, _, r, k, xo, fun x hc1 k1 v1 H1 m1 x1 q1 => ⟨en, sc, hc1, m1, E, _, r.call x1, k1, xo, fun y hc2 k2 v2 H2 m2 x2 q2 => by
      have r2 := (r.call x1).call x2
      have s1 := x1.stp
      have s2 := x2.stp
      cases x <;> try exact k2.elim
      cases y <;> try exact k2.elim
      obtain ⟨ds, e, k2⟩ := oth_of k2
      obtain ⟨j, ej, k3⟩ := oth_of k2
      unfold Rep at q1 q2
      subst q1; subst q2
      obtain ⟨vs, e1, rl⟩ := r2.heap _ _ e
      have qd := Rep.mono r.mu (s1.trans s2) _ _ q
      obtain ⟨r3, s3⟩ := r2.chg (es := ds.set j d) (ws := vs.set j v) e (RepL.set qd j rl)
      exact ⟨_, vs, _, j, rfl, rfl, e1, by rw [← rl.length]; exact ej, f _ _ k3 _ _ m2 r3 (s1.trans (s2.trans s3))⟩⟩⟩⟩
def cAsg (ce : CEx) (g : CGx) : CSx := fun C sc hc => ce C.xp sc hc fun d hc1 => g C.xp d sc hc1 fun sc2 hc2 => C.nx sc2 hc2
theorem asg_lift {g : CGx} {D : Ends} {σ : L2.St} {H : Hp} (h : LS X W (cAsg ce g) D σ H) : tAsg (LE X W ce) (LG X W g) D σ H := by
  obtain ⟨en, sc, hc, m, C, r, k, f⟩ := h
  exact ⟨en, sc, hc, m, C.xp, _, r, k, f.xp, fun d hc1 p v H1 m1 x1 q => ⟨en, sc, hc1, m1, C.xp, d, _, r.call x1, q, p, f.xp, f.nx.step x1.stp⟩⟩
theorem cs_asg {g : CGx} (he : CE X W e ce) (hg : CG X W tg g) (hs : swapsWithSole [tg] e pos.line X.env = pure false := by rfl) (hw : swappedStores [tg] e X.env = pure none := by rfl)
    (h1 : (assignEach [tg] X.env).map (·.2) = [assign tg X.env] := by rfl) : CS X W (.Assign [tg] e pos) (cAsg ce g) := ⟨ps_wk (ps_asg he.p hg.p hs hw h1) fun D σ H h => asg_lift h⟩
theorem cs_set {i : Nat} {x : Str} {p2 : Pos} (hN : X.N.Nodup) (he : CE X W e ce) (hi : X.N[i]? = some x := by rfl) (hx : Loc X.env.scope x := by first | exact Or.inl rfl | exact Or.inr rfl) (hs : swapsWith e (some (.Name x p2)) pos.line X.env = pure false := by rfl) (hf : X.fn x = true ∨ X.env.scope.names.lookup x = some .local := by first | exact .inl rfl | exact .inr rfl) :
    CS X W (.Assign [.Name x p2] e pos) (cAsg ce (gN i)) := ⟨ps_wk (ps_set hN hi hx he.p hs hf) fun D σ H ⟨en, sc, hc, m, C, r, k, f⟩ =>
  ⟨en, sc, hc, m, C.xp, _, r, k, f.xp, fun d hc1 p v H1 m1 x1 q => f.nx _ hc1 p _ H1 m1 ((r.call x1).put i q) x1.stp⟩⟩

/-! ### lists that a slot alone holds -/
theorem Rs.mine {K : PySem.W.Frag} {en : En} {σ : L2.St} {H : Hp} {sc : List Sl} {hc : CH} {m : Ms} (r : Rs K en σ H sc hc m) (i : Nat) {p : Addr} {ds : List D} {vs : List V} (n : H p = none) (q : RepL K H m ds vs) :
    ∃ m', Rs K en (σ.set i (some (.ref p))) (upd H p (.lst vs)) (sc.set i (.own ds)) hc m' ∧ Stp H m (upd H p (.lst vs)) m' := by
  have st : Stp H m (upd H p (.lst vs)) (fun a => m a ∨ a = p) := ⟨fun a o e _ => same_upd n a o e, fun a z => z.elim .inl fun e => .inr (by rw [e]; exact n)⟩
  have e0 : en.H p = none := by
    cases e : en.H p with
    | none => rfl
    | some o => exact absurd n (r.live p o e)
  have hn := hc_none r.toWd n
  refine ⟨_, ⟨⟨⟨fun a z => ?_, fun a ds' e => .inl (r.hm a ds' e), fun a ds' e => ?_⟩, r.emut, r.ehm, fun a o e h => same_upd n a o (r.keep a o e h), fun a z => ?_, fun a z h => .inl (r.hold a z h), r.hgrow, fun a o e => ?_⟩, fun j d e => ?_, fun j ds' e => ?_, fun j l ds1 ds2 a e1 e2 e3 e4 => ?_, by rw [List.length_set, List.length_set]; exact r.len⟩, st⟩
  · rcases z with z | rfl
    · obtain ⟨ws, e⟩ := r.mu a z
      exact ⟨ws, same_upd n _ _ e⟩
    · exact ⟨vs, upd_same⟩
  · obtain ⟨ws, e1, q1⟩ := r.heap a ds' e
    exact ⟨ws, same_upd n _ _ e1, RepL.mono r.mu st _ _ q1⟩
  · rcases z with z | rfl
    · exact r.grow a z
    · exact .inr e0
  · cases e2 : H a with
    | none => exact absurd e2 (r.live a o e)
    | some u => rw [same_upd n a u e2]; simp
  · by_cases h : i = j
    · subst h
      by_cases l : i < sc.length
      · rw [List.getElem?_set_self l] at e; cases e
      · rw [List.getElem?_eq_none (by rw [List.length_set]; omega)] at e; cases e
    · rw [List.getElem?_set_ne h] at e ⊢
      obtain ⟨v, e1, q1⟩ := r.slot j d e
      exact ⟨v, e1, Rep.mono r.mu st _ _ q1⟩
  · by_cases h : i = j
    · subst h
      by_cases l : i < sc.length
      · rw [List.getElem?_set_self l] at e; cases e
        exact ⟨p, vs, List.getElem?_set_self (by rw [← r.len]; exact l), .inr rfl, e0, hn, upd_same, RepL.mono r.mu st _ _ q⟩
      · rw [List.getElem?_eq_none (by rw [List.length_set]; omega)] at e; cases e
    · rw [List.getElem?_set_ne h] at e ⊢
      obtain ⟨a, ws, e1, ma, ea, ha, eH, q1⟩ := r.own j ds' e
      exact ⟨a, ws, e1, .inl ma, ea, ha, same_upd n _ _ eH, RepL.mono r.mu st _ _ q1⟩
  · have other : ∀ (x : Nat) (ds' : List D), x ≠ i → (sc.set i (.own ds))[x]? = some (Sl.own ds') → (σ.set i (some (V.ref p)))[x]? = some (some (V.ref a)) → sc[x]? = some (Sl.own ds') ∧ σ[x]? = some (some (V.ref a)) ∧ a ≠ p := fun x ds' hx f1 f2 => by
      rw [List.getElem?_set_ne (Ne.symm hx)] at f1 f2
      obtain ⟨b, ws, g1, _, _, _, gH, _⟩ := r.own x ds' f1
      rw [f2] at g1; cases g1
      exact ⟨f1, f2, fun z => by rw [z, n] at gH; cases gH⟩
    have self : ∀ (x : Nat), x = i → (σ.set i (some (V.ref p)))[x]? = some (some (V.ref a)) → a = p := fun x hx f => by
      subst hx
      by_cases l : x < σ.length
      · rw [List.getElem?_set_self l] at f; cases f; rfl
      · rw [List.getElem?_eq_none (by rw [List.length_set]; omega)] at f; cases f
    by_cases hj : j = i
    · by_cases hl : l = i
      · rw [hj, hl]
      · exact absurd (self j hj e3) (other l ds2 hl e2 e4).2.2
    · by_cases hl : l = i
      · exact absurd (self l hl e4) (other j ds1 hj e1 e3).2.2
      · obtain ⟨f1, f2, _⟩ := other j ds1 hj e1 e3
        obtain ⟨g1, g2, _⟩ := other l ds2 hl e2 e4
        exact r.sep j l _ _ a f1 g1 f2 g2
/-- x = [..], a list that grows -/
def cSetO (i : Nat) (ca : CAx) : CSx := fun C sc hc => ca C.xp sc hc fun ds hc1 => ds.length ≤ sizeLine ∧ C.nx (sc.set i (.own ds)) hc1
theorem cs_setO {i : Nat} {x : Str} {p2 p3 : Pos} (hN : X.N.Nodup) (ha : CA X W es ca) (hi : X.N[i]? = some x := by rfl) (hx : Loc X.env.scope x := by first | exact Or.inl rfl | exact Or.inr rfl) (hs : swapsWith (.List es p3) (some (.Name x p2)) pos.line X.env = pure false := by rfl) (hf : X.fn x = true ∨ X.env.scope.names.lookup x = some .local := by first | exact .inl rfl | exact .inr rfl) :
    CS X W (.Assign [.Name x p2] (.List es p3) pos) (cSetO i ca) := ⟨ps_wk (ps_set hN hi hx (pe_lst ha.p) hs hf) fun D σ H ⟨en, sc, hc, m, C, r, k, f⟩ =>
  ⟨en, sc, hc, m, C.xp, _, r, k, f.xp, fun ds hc1 p vs H1 m1 x1 q => ⟨by rw [← q.length]; exact p.1, fun a n => by
    obtain ⟨m2, r2, s2⟩ := (r.call x1).mine i n q
    exact f.nx _ hc1 p.2 _ _ m2 r2 (x1.stp.trans s2)⟩⟩⟩
/-- the owned list of a slot with other items -/
theorem Rs.grown {K : PySem.W.Frag} {en : En} {σ : L2.St} {H : Hp} {sc : List Sl} {hc : CH} {m : Ms} (r : Rs K en σ H sc hc m) {i : Nat} {p : Addr} {ds es : List D} {ws : List V} (e : sc[i]? = some (Sl.own ds)) (ep : σ[i]? = some (some (V.ref p))) (q : RepL K H m es ws) :
    Rs K en σ (upd H p (.lst ws)) (sc.set i (.own es)) hc m ∧ Stp H m (upd H p (.lst ws)) m := by
  obtain ⟨a, vs, e1, ma, h0, h1, eH, q1⟩ := r.own i ds e
  rw [ep] at e1; cases e1
  have st : Stp H m (upd H p (.lst ws)) m := ⟨fun b o e n => by rw [upd_ne (fun z => n (by rw [z]; exact ma))]; exact e, fun _ h => .inl h⟩
  have li : i < sc.length := by
    by_cases l : i < sc.length
    · exact l
    · rw [List.getElem?_eq_none (by omega)] at e; cases e
  refine ⟨⟨⟨⟨fun b z => ?_, r.hm, fun b ds' e' => ?_⟩, r.emut, r.ehm, fun b o e' n => ?_, r.grow, r.hold, r.hgrow, fun b o e' => ?_⟩, fun j d e' => ?_, fun j ds' e' => ?_, fun j l ds1 ds2 b f1 f2 f3 f4 => ?_, by rw [List.length_set]; exact r.len⟩, st⟩
  · by_cases hp : b = p
    · subst hp; exact ⟨ws, upd_same⟩
    · rw [upd_ne hp]; exact r.mu b z
  · have hp : b ≠ p := fun z => by rw [z, h1] at e'; cases e'
    obtain ⟨us, e2, q2⟩ := r.heap b ds' e'
    exact ⟨us, by rw [upd_ne hp]; exact e2, RepL.mono r.mu st _ _ q2⟩
  · rw [upd_ne (fun z => by rw [z, h0] at e'; cases e')]
    exact r.keep b o e' n
  · by_cases hp : b = p
    · subst hp; rw [upd_same]; simp
    · rw [upd_ne hp]; exact r.live b o e'
  · by_cases h : i = j
    · subst h; rw [List.getElem?_set_self li] at e'; cases e'
    · rw [List.getElem?_set_ne h] at e'
      obtain ⟨v, e2, q2⟩ := r.slot j d e'
      exact ⟨v, e2, Rep.mono r.mu st _ _ q2⟩
  · by_cases h : i = j
    · subst h
      rw [List.getElem?_set_self li] at e'; cases e'
      exact ⟨p, ws, ep, ma, h0, h1, upd_same, RepL.mono r.mu st _ _ q⟩
    · rw [List.getElem?_set_ne h] at e'
      obtain ⟨b, us, e2, mb, b0, b1, bH, q2⟩ := r.own j ds' e'
      have hbp : b ≠ p := fun z => h (r.sep i j ds ds' p e e' ep (by rw [← z]; exact e2))
      exact ⟨b, us, e2, mb, b0, b1, by rw [upd_ne hbp]; exact bH, RepL.mono r.mu st _ _ q2⟩
  · have back : ∀ (x : Nat) (ds' : List D), (sc.set i (.own es))[x]? = some (Sl.own ds') → ∃ ds'', sc[x]? = some (Sl.own ds'') := fun x ds' g => by
      by_cases h : i = x
      · subst h; exact ⟨ds, e⟩
      · rw [List.getElem?_set_ne h] at g; exact ⟨ds', g⟩
    obtain ⟨_, g1⟩ := back j _ f1
    obtain ⟨_, g2⟩ := back l _ f2
    exact r.sep j l _ _ b g1 g2 f3 f4
/-- x.append(e), x an owned list -/
def cApp (i : Nat) (ce : CEx) : CSx := fun C sc hc => match lookO sc i with | some ds => ds.length < sizeLine ∧ ce C.xp sc hc fun d hc1 => C.nx (sc.set i (.own (ds ++ [d]))) hc1 | none => False
theorem cs_app {x : Str} {px pa : Pos} (i : Nat) (he : CE X W e ce) (hN : X.N[i]? = some x := by rfl) (hv : Vis X.env.scope x := by first | exact Or.inl rfl | exact Or.inr (Or.inl rfl) | exact Or.inr (Or.inr rfl)) (hd : (x == ("__debug__" : Str)) = false := by decide) (hcd : (x == ("__classdict__" : Str)) = false := by decide)
    (hs : starEach [e] X.env = (false, eval e X.env) :: starEach [] X.env := by rfl)
    (hb : attributeBase (.Name x px) "append" X.env (eval (.Name x px) X.env) = eval (.Name x px) X.env := by rfl) {pc : Pos}
    (hfew : ((backTo pc (starEach [e] X.env)).all (fun x => !x.1) && (backToKw pc (keywordEach [] X.env)).all (fun x => x.1.isSome)
      && decide ([e].length + ([] : List Keyword).length + (if ([] : List Keyword).isEmpty then 0 else 1) < 30)) = true := by rfl)
    (hl : (pa.endLine == pc.line) = true := by rfl)
    (hsw : swapsWith (.Call (.Attribute (.Name x px) "append" pa) [e] [] pc) none pos.line X.env = pure false := by rfl) : CS X W (.Expr (.Call (.Attribute (.Name x px) "append" pa) [e] [] pc) pos) (cApp i ce) :=
  ⟨ps_wk (ps_expr (pe_bm PySem.F.plainAttrs_list PySem.F.slot_list_append PySem.F.type_list_append mt_append (pv i hN hv hd hcd) (pa_cons he.p pa_nil hs) hb hfew hl hs) hsw) fun D σ H ⟨en, sc, hc, m, C, r, k, f⟩ => by
    unfold cApp at k
    split at k
    case h_2 => exact k.elim
    rename_i ds e0
    obtain ⟨lt, k⟩ := k
    have e' := lookO_get e0
    obtain ⟨p, vs, e1, ma, h0, h1, eH, q1⟩ := r.own i ds e'
    refine ⟨.ref p, e1, .inl ⟨rfl, vs, .of eH⟩, en, sc, hc, m, C.xp, _, r, k, f.xp, fun d hc1 pp v H1 m1 x1 q => ?_⟩
    have r1 := r.call x1
    have s1 := x1.stp
    obtain ⟨p2, vs2, e2, _, _, _, eH2, q2⟩ := r1.own i ds e'
    rw [e1] at e2; cases e2
    obtain ⟨r2, s2⟩ := r1.grown e' e1 (q2.append (RepL.one q))
    exact ⟨p, vs2, v, rfl, rfl, eH2, by rw [← q2.length]; exact lt, f.nx _ hc1 pp _ _ m1 r2 (s1.trans s2)⟩⟩
/-- the owned list becomes a value -/
theorem Rs.give {K : PySem.W.Frag} {en : En} {σ : L2.St} {H : Hp} {sc : List Sl} {hc : CH} {m : Ms} (r : Rs K en σ H sc hc m) {i : Nat} {ds : List D} (e : sc[i]? = some (Sl.own ds)) : ∃ m', Rs K en σ H (sc.set i (.val (.lst ds))) hc m' ∧ Stp H m H m' := by
  obtain ⟨p, vs, e1, ma, h0, h1, eH, q1⟩ := r.own i ds e
  obtain ⟨x, st⟩ := r.toEx.drop h0 h1
  have li : i < sc.length := by
    by_cases l : i < sc.length
    · exact l
    · rw [List.getElem?_eq_none (by omega)] at e; cases e
  have ne : ∀ (j : Nat) (ds' : List D), (sc.set i (.val (.lst ds)))[j]? = some (Sl.own ds') → j ≠ i ∧ sc[j]? = some (Sl.own ds') := fun j ds' e' => by
    by_cases h : i = j
    · subst h; rw [List.getElem?_set_self li] at e'; cases e'
    · rw [List.getElem?_set_ne h] at e'; exact ⟨fun z => h z.symm, e'⟩
  refine ⟨_, ⟨x, fun j d e' => ?_, fun j ds' e' => ?_, fun j l ds1 ds2 b f1 f2 f3 f4 => r.sep j l _ _ b (ne j _ f1).2 (ne l _ f2).2 f3 f4, by rw [List.length_set]; exact r.len⟩, st⟩
  · by_cases h : i = j
    · subst h
      rw [List.getElem?_set_self li] at e'; cases e'
      refine ⟨_, e1, ?_⟩
      unfold Rep
      exact ⟨p, vs, rfl, fun z => z.2 rfl, eH, RepL.mono r.mu st _ _ q1⟩
    · rw [List.getElem?_set_ne h] at e'
      obtain ⟨v, e2, q2⟩ := r.slot j d e'
      exact ⟨v, e2, Rep.mono r.mu st _ _ q2⟩
  · obtain ⟨hj, e2⟩ := ne j ds' e'
    obtain ⟨b, us, e3, mb, b0, b1, bH, q2⟩ := r.own j ds' e2
    refine ⟨b, us, e3, ⟨mb, fun z => hj (r.sep j i ds' ds p e2 e (by rw [← z]; exact e3) e1)⟩, b0, b1, bH, RepL.mono r.mu st _ _ q2⟩
/-- ghost: the slot's list is a value from here on -/
def cGive (i : Nat) (c : CSx) : CSx := fun C sc hc => match lookO sc i with | some ds => c C (sc.set i (.val (.lst ds))) hc | none => False
theorem cs_give (i : Nat) (h : CS X W st c) : CS X W st (cGive i c) := ⟨ps_wk h.p fun D σ H ⟨en, sc, hc, m, C, r, k, f⟩ => by
  unfold cGive at k
  split at k
  case h_2 => exact k.elim
  rename_i ds e
  obtain ⟨m', r', s'⟩ := r.give (lookO_get e)
  exact ⟨en, _, hc, m', C, r', k, f.step s'⟩⟩

/-! ### two, three names at once -/
def cPar (i j : Nat) (ca : CAx) : CSx := fun C sc hc => ca C.xp sc hc fun ds hc1 => match ds with | [x, y] => C.nx ((sc.set i (.val x)).set j (.val y)) hc1 | _ => False
theorem cs_par {i j : Nat} {x y : Str} {a b : Expr} {px py pt : Pos} {kt k2 : Nat} {p2 : Pos} (hc : X.calm = true) (hN : X.N.Nodup) (ha : CA X W [a, b] ca) (hw : swappedStores [.Tuple [.Name x px, .Name y py] kt pt] (.Tuple [a, b] k2 p2) X.env = pure (some [x, y]) := by rfl) (hi : X.N[i]? = some x := by rfl) (hj : X.N[j]? = some y := by rfl) (hij : i ≠ j := by decide)
    (hx : X.env.scope.names.lookup x = some .local := by rfl) (hy : X.env.scope.names.lookup y = some .local := by rfl)
    (hs : swapsWithSole [.Tuple [.Name x px, .Name y py] kt pt] (.Tuple [a, b] k2 p2) pos.line X.env = pure false := by rfl) : CS X W (.Assign [.Tuple [.Name x px, .Name y py] kt pt] (.Tuple [a, b] k2 p2) pos) (cPar i j ca) :=
  ⟨ps_wk (ps_par hc hN hi hj hij hx hy ha.p hw hs) fun D σ H ⟨en, sc, hc, m, C, r, k, f⟩ =>
    ⟨en, sc, hc, m, C.xp, _, r, k, f.xp, fun ds hc1 p vs H1 m1 x1 q => by
      have r1 := r.call x1
      have s1 := x1.stp
      split at p
      · unfold RepL at q
        obtain ⟨v, _, rfl, q1, q⟩ := q
        unfold RepL at q
        obtain ⟨w, _, rfl, q2, q⟩ := q
        unfold RepL at q
        subst q
        exact ⟨v, w, rfl, f.nx _ hc1 p _ H1 m1 ((r1.put i q1).put j q2) s1⟩
      · exact p.elim⟩⟩
def cPar3 (i j l : Nat) (ca : CAx) : CSx := fun C sc hc => ca C.xp sc hc fun ds hc1 => match ds with | [x, y, z] => C.nx (((sc.set i (.val x)).set j (.val y)).set l (.val z)) hc1 | _ => False
theorem cs_par3 {i j l : Nat} {x y z : Str} {a b c : Expr} {px py pz pt : Pos} {kt k2 : Nat} {p2 : Pos} (hc : X.calm = true) (hN : X.N.Nodup) (ha : CA X W [a, b, c] ca) (hw : swappedStores [.Tuple [.Name x px, .Name y py, .Name z pz] kt pt] (.Tuple [a, b, c] k2 p2) X.env = pure (some [x, y, z]) := by rfl) (hi : X.N[i]? = some x := by rfl) (hj : X.N[j]? = some y := by rfl) (hl : X.N[l]? = some z := by rfl) (hij : i ≠ j := by decide) (hil : i ≠ l := by decide) (hjl : j ≠ l := by decide)
    (hx : X.env.scope.names.lookup x = some .local := by rfl) (hy : X.env.scope.names.lookup y = some .local := by rfl) (hz : X.env.scope.names.lookup z = some .local := by rfl)
    (hs : swapsWithSole [.Tuple [.Name x px, .Name y py, .Name z pz] kt pt] (.Tuple [a, b, c] k2 p2) pos.line X.env = pure false := by rfl) : CS X W (.Assign [.Tuple [.Name x px, .Name y py, .Name z pz] kt pt] (.Tuple [a, b, c] k2 p2) pos) (cPar3 i j l ca) :=
  ⟨ps_wk (ps_par3 hc hN hi hj hl hij hil hjl hx hy hz ha.p hw hs) fun D σ H ⟨en, sc, hc, m, C, r, k, f⟩ =>
    ⟨en, sc, hc, m, C.xp, _, r, k, f.xp, fun ds hc1 p vs H1 m1 x1 q => by
      have r1 := r.call x1
      have s1 := x1.stp
      split at p
      · unfold RepL at q
        obtain ⟨v, _, rfl, q1, q⟩ := q
        unfold RepL at q
        obtain ⟨w, _, rfl, q2, q⟩ := q
        unfold RepL at q
        obtain ⟨w3, _, rfl, q3, q⟩ := q
        unfold RepL at q
        subst q
        exact ⟨v, w, w3, rfl, f.nx _ hc1 p _ H1 m1 (((r1.put i q1).put j q2).put l q3) s1⟩
      · exact p.elim⟩⟩
/-- x op= e -/
def cAug (i : Nat) (f : O2) (ce : CEx) : CSx := fun C sc hc => match look sc i with | some x => ce C.xp sc hc fun d hc1 => f x d hc1 fun z => C.nx (sc.set i (.val z)) hc1 | none => False
theorem cs_aug {i : Nat} {x : Str} {p2 : Pos} {op : Operator} {f : O2} (hN : X.N.Nodup) (he : CE X W e ce) (ho : PIp X op (LV2 X.K f)) (hi : X.N[i]? = some x := by rfl) (hx : Loc X.env.scope x := by first | exact Or.inl rfl | exact Or.inr rfl) (hf : X.fn x = true ∨ X.env.scope.names.lookup x = some .local := by first | exact .inl rfl | exact .inr rfl) :
    CS X W (.AugAssign (.Name x p2) op e pos) (cAug i f ce) := ⟨ps_wk (ps_aug hN hi hx he.p ho hf) fun D σ H ⟨en, sc, hc, m, C, r, k, fo⟩ => by
  unfold cAug at k
  split at k
  case h_2 => exact k.elim
  rename_i y e0
  obtain ⟨v, e1, q0⟩ := r.slot i y (look_get e0)
  refine ⟨v, e1, en, sc, hc, m, C.xp, _, r, k, fo.xp, fun d hc1 p w H1 m1 x1 q => ⟨hc1, m1, y, d, _, x1.toWd, (Rep.mono r.mu x1.stp _ _ q0).w, q.w, p, fun z pz v' H' sm q' => ?_⟩⟩
  exact fo.nx _ hc1 pz _ H' m1 (((r.call x1).same sm).put i q') (x1.stp.trans (.same sm))⟩
theorem ip_intD0 {op : Operator} {g : Int → Int → Int} (ho : PIp X op (ipI g)) : PIp X op (LV2 X.K (intD0 g)) := by
  intro pins s σ H x y v u Q I rx ry h
  obtain ⟨hc, m, dx, dy, P, w, h1, h2, f, fin⟩ := h
  cases dx <;> cases dy <;> try exact f.elim
  unfold RepW Rep at h1 h2
  subst h1; subst h2
  exact ho pins s σ H _ _ v u Q I rx ry ⟨_, _, rfl, rfl, fin _ f _ _ (.refl H) rep_int⟩
theorem ip_addI : PIp X .Add (LV2 X.K (intD0 fun i j => i + j)) := ip_intD0 ip_add
theorem ip_subI : PIp X .Sub (LV2 X.K (intD0 fun i j => i - j)) := ip_intD0 ip_sub

/-! ### while -/
def whN (t : CTx) (c : CSx) : Nat → CSx
  | 0 => fun _ _ _ => False
  | n + 1 => fun C sc hc => t C.xp sc hc fun b hc1 => if b = true then c { nx := fun s h => whN t c n C s h, ct := fun s h => whN t c n C s h, bk := C.nx, rt := C.rt, xp := C.xp } sc hc1 else C.nx sc hc1
def cWhile (t : CTx) (c : CSx) : CSx := fun C sc hc => ∃ n, whN t c n C sc hc
theorem cs_while (hp : PassesOwn (model X.prog X.w) X.A X.env X.xe) (ht : CT X W e ct) (hb : CSs X W body c) : CS X W (.While e body [] pos) (cWhile ct c) := ⟨ps_wk (ps_while hp ht.p hb.p) fun D σ H ⟨en, sc, hc, m, C, r, ⟨n, k⟩, f⟩ => by
  refine ⟨fun n σ' H' => ∃ sc' hc' m', Rs X.K en σ' H' sc' hc' m' ∧ Stp H m H' m' ∧ whN ct c n C sc' hc', ⟨n, sc, hc, m, r, .refl, k⟩, fun n σ1 H1 ⟨sc1, hc1, m1, r1, s1, k1⟩ => ?_⟩
  cases n with
  | zero => exact k1.elim
  | succ n =>
    refine ⟨en, sc1, hc1, m1, C.xp, _, r1, k1, f.xp, fun b hc2 p H2 m2 x2 => ?_⟩
    have r2 := r1.call x2
    have s12 := s1.trans x2.stp
    cases b with
    | true =>
      rw [if_pos rfl] at p
      refine iteT ⟨_, fun σ' H' h => h, en, sc1, hc2, m2, _, r2, p, ⟨fun sc' hc' p' σ' H' m' r' s' => ⟨n, Nat.lt_succ_self n, sc', hc', m', r', s12.trans s', p'⟩, f.nx.step s12, fun sc' hc' p' σ' H' m' r' s' => ⟨n, Nat.lt_succ_self n, sc', hc', m', r', s12.trans s', p'⟩, f.rt, f.xp⟩⟩
    | false =>
      rw [if_neg Bool.false_ne_true] at p
      exact iteF (f.nx sc1 hc2 p σ1 H2 m2 r2 s12)⟩

/-! ### ranges of any ends -/
theorem longTurn {P : Program} {w : World} {K : PySem.W.Frag} {tg : Expr} (b0 : Addr) (l : Int) (n : Nat) : Turn P w K tg (Itr l n) [b0] b0 (fun i g => IsLongIter g b0 (l + (i : Nat) * 1) ((n : Int) - (i : Nat)) 1) where
  mem := List.mem_singleton.mpr rfl
  obj := fun i g st b hb => by
    cases List.mem_singleton.mp hb
    refine ⟨_, st, fun v z => ?_⟩
    have z2 : Data.fields _ = Data.cell v := z
    cases z2
  keep := fun i g g' st k => k b0 (List.mem_singleton.mpr rfl) _ st
  item := fun X hP hw hK hc i pins s σ H E I hf st hg => by
    subst hP; subst hw; subst hK
    obtain ⟨f0, f1, f2, f3, f4, f5⟩ := hf b0 (List.mem_singleton.mpr rfl)
    refine (Walks.longrange (prog := X.prog) (w := X.w) (I.ok.hd hc) b0 l 1 n).item i s _ _ hg st fun v g tk hv st2 kk => ?_
    obtain ⟨t, rfl⟩ := hv
    have I2 : Inv X pins σ H { s with heap := g, toks := tk } := I.turned (fun b o hb e => kk b o (fun z => hb (List.mem_singleton.mp z)) e) f0 f1 f3 f4 f5
    refine ⟨_, rfl, go_of (s := { s with heap := g, toks := tk }) (n := "longrange_iterator") st2 rfl rfl (by decide) ⟨.int (l + i), H, I2, ⟨t, ?_⟩, ⟨rfl, rfl⟩, st2, fun b hb => (hf b hb).1⟩⟩
    rw [Int.mul_one]
  done := fun X hP hw hK hc i pins s σ H E I hf st hg => by
    subst hP; subst hw; subst hK
    obtain ⟨f0, f1, f2, f3, f4, f5⟩ := hf b0 (List.mem_singleton.mpr rfl)
    refine wpAny_pyNext_long_end (I.ok.hd hc) st ?_ fun g eb => ⟨rfl, I.turned (t' := s.toks) (fun b o hb e => eb b o hb e) f0 f1 f3 f4 f5⟩
    have : n ≤ i := hg
    omega
  self := fun _ _ _ _ _ st h => wpAny_pyIter_longiter st h
theorem rangeAny {pins : List (Addr × Obj)} {σ : L2.St} {H : Hp} {s : Shared} {R : It → Hp → Prop} {E : Value → Shared → Prop} {l u : Int} {t1 t2 t3 : Tok} {tk : Nat} (I : Inv X pins σ H s)
    (q : R (Itr l (u - l).toNat) H) : wpAny (model X.prog X.w) X.A (pyIter (.ref s.heap.objs.size)) (PIE X pins σ tg R) E { s with heap := s.heap.push { cls := .type "range", data := .fields #[.int l t1, .int u t2, .int 1 t3] }, toks := tk } := by
  have I1 : Inv X pins σ H { s with heap := s.heap.push { cls := .type "range", data := .fields #[.int l t1, .int u t2, .int 1 t3] }, toks := tk } := I.kept fun b o e => Heap.get?_push_of_some _ e
  have e1 : l + ((0 : Nat) : Int) * 1 = l := by omega
  have e2 : (((u - l).toNat : Nat) : Int) - ((0 : Nat) : Int) = Builtin.Range.rangeSize l u 1 := by rw [rangeSize_one]; split <;> omega
  cases hs : Builtin.Range.small l u 1 with
  | true =>
    refine wpAny_pyIter_range (IsRange.new ..) hs ?_
    refine ⟨_, [_], _, _, H, rfl, I1.kept (t' := tk) fun b o e => Heap.get?_push_of_some _ e, turn_range _ l (u - l).toNat, ?_, fun b hb => ?_, q⟩
    · show IsRangeIter _ _ (l + ((0 : Nat) : Int) * 1) ((((u - l).toNat : Nat) : Int) - ((0 : Nat) : Int)) 1
      rw [e1, e2]
      exact Heap.get?_push_size _ rfl
    · cases List.mem_singleton.mp hb
      exact I1.fpOk (Nat.le_refl _) (I1.hok.fresh (Nat.le_refl _))
  | false =>
    refine wpAny_pyIter_longrange (IsRange.new ..) hs ?_
    refine ⟨_, [_], _, _, H, rfl, I1.kept (t' := tk) fun b o e => Heap.get?_push_of_some _ e, longTurn _ l (u - l).toNat, ?_, fun b hb => ?_, q⟩
    · show IsLongIter _ _ (l + ((0 : Nat) : Int) * 1) ((((u - l).toNat : Nat) : Int) - ((0 : Nat) : Int)) 1
      rw [e1, e2]
      exact Heap.get?_push_size _ rfl
    · cases List.mem_singleton.mp hb
      exact I1.fpOk (Nat.le_refl _) (I1.hok.fresh (Nat.le_refl _))
def tR1 (ta : L2.TA) : TI := fun σ H R => ta σ H fun vs H1 => ∃ j : Int, vs = [.int j] ∧ R (Itr 0 j.toNat) H1
def tR2 (ta : L2.TA) : TI := fun σ H R => ta σ H fun vs H1 => ∃ i j : Int, vs = [.int i, .int j] ∧ R (Itr i (j - i).toNat) H1
theorem piR1 {a : Expr} {ta : L2.TA} {p pos : Pos} (hg : Gl X "range") (hm : X.mg "range" = none) (ha : PA X [a] ta) (hs : starEach [a] X.env = [(false, eval a X.env)]) : PI X tg (.Call (.Name "range" p) [a] [] pos) (tR1 ta) := by
  refine ⟨fun pins s σ H R I h => Call_ (ld_blt I hg hm boot_range (PyProof.Rows.callWith_type1 (thn (ha.run pos pins s σ H _ I h) fun us s1 ⟨vs, H1, I1, r1, q1⟩ => ?_) hs rfl))⟩
  obtain ⟨j, rfl, q⟩ := q1
  obtain _ | ⟨r, rr⟩ := r1
  cases rr
  obtain ⟨t, rfl⟩ := r
  refine call_range_1 (rangeAny I1 ?_)
  rw [Int.sub_zero]
  exact q
theorem piR2 {a b : Expr} {ta : L2.TA} {p pos : Pos} (hg : Gl X "range") (hm : X.mg "range" = none) (ha : PA X [a, b] ta) (hs : starEach [a, b] X.env = [(false, eval a X.env), (false, eval b X.env)]) (hs2 : starEach [b] X.env = [(false, eval b X.env)]) :
    PI X tg (.Call (.Name "range" p) [a, b] [] pos) (tR2 ta) := by
  refine ⟨fun pins s σ H R I h => Call_ (ld_blt I hg hm boot_range (PyProof.Rows.callWith_type1 (thn (ha.run pos pins s σ H _ I h) fun us s1 ⟨vs, H1, I1, r1, q1⟩ => ?_) (by rw [hs, hs2]) (by rw [hs2]; rfl)))⟩
  obtain ⟨i, j, rfl, q⟩ := q1
  obtain _ | ⟨r, rr⟩ := r1
  obtain _ | ⟨r', rr⟩ := rr
  cases rr
  obtain ⟨t, rfl⟩ := r
  obtain ⟨t', rfl⟩ := r'
  exact call_range_2 (rangeAny I1 q)
/-! ### for -/
def Yields (K : PySem.W.Frag) (J : It) (ds : List D) (H0 : Hp) (m0 : Ms) : Prop := ∀ (H : Hp) (m : Ms), MutOk H m → Stp H0 m0 H m → ∀ i : Nat,
  (∀ d, ds[i]? = some d → J.go i H ∧ ∀ x H', J.yld i H x H' → Same H H' ∧ Rep K H' m d x) ∧ (ds.length ≤ i → J.stop i H)
abbrev CIx := XP → List Sl → CH → (List D → CH → Prop) → Prop
def LI (X : Cx) (W : WX) (c : CIx) : TI := fun σ H R => ∃ en sc hc m E P, Rs X.K en σ H sc hc m ∧ c E sc hc P ∧ XOk X W en E ∧
  ∀ ds hc', P ds hc' → ∀ J H' m', Ex X.K ⟨H, hc, m⟩ H' hc' m' → Yields X.K J ds H' m' → R J H'
structure CI (X : Cx) (W : WX) (tg e : Expr) (c : CIx) : Prop where
  p : PI X tg e (LI X W c)
theorem pi_wk {X : Cx} {tg e : Expr} {t t' : TI} (h : PI X tg e t) (g : ∀ σ H Q, t' σ H Q → t σ H Q) : PI X tg e t' := ⟨fun pins s σ H Q I q => h.run pins s σ H Q I (g σ H Q q)⟩
def forW (g : CGx) (c : CSx) : List D → CSx
  | [] => fun C sc hc => C.nx sc hc
  | d :: ds => fun C sc hc => g C.xp d sc hc fun sc1 hc1 => c { nx := fun s h => forW g c ds C s h, ct := fun s h => forW g c ds C s h, bk := C.nx, rt := C.rt, xp := C.xp } sc1 hc1
def cFor (ci : CIx) (g : CGx) (c : CSx) : CSx := fun C sc hc => ci C.xp sc hc fun ds hc1 => forW g c ds C sc hc1
theorem cs_for {ci : CIx} {g : CGx} (hp : PassesOwn (model X.prog X.w) X.A X.env X.xe) (hcl : X.calm = true) (hi : CI X W tg iter ci) (hg : CG X W tg g) (hb : CSs X W body c) (hs : ∀ x, foldedSetIterable iter X.env x = pure x := by intro _; rfl) : CS X W (.For tg iter body [] pos) (cFor ci g c) :=
  ⟨ps_wk (ps_for hp hcl hi.p hg.p hb.p hs) fun D σ H ⟨en, sc, hc, m, C, r, k, f⟩ => by
    refine ⟨en, sc, hc, m, C.xp, _, r, k, f.xp, fun ds hc0 k0 J H0 m0 x0 yl => ?_⟩
    have r0 := r.call x0
    have s0 := x0.stp
    refine ⟨fun i mm σ' H' => ∃ sc' hc' m', Rs X.K en σ' H' sc' hc' m' ∧ Stp H0 m0 H' m' ∧ mm = ds.length - i ∧ i ≤ ds.length ∧ forW g c (ds.drop i) C sc' hc', ⟨_, sc, hc0, m0, r0, .refl, rfl, Nat.zero_le _, k0⟩, ?_⟩
    rintro i mm σ1 H1 ⟨sc1, hc1, m1, r1, s1, rfl, hi, k1⟩
    obtain ⟨yg, ys⟩ := yl H1 m1 r1.mu s1 i
    by_cases lt : i < ds.length
    · rw [List.drop_eq_getElem_cons lt] at k1
      obtain ⟨go, yy⟩ := yg _ (List.getElem?_eq_getElem lt)
      refine .inr ⟨go, fun σ' H' => ∃ sc' hc' m', Rs X.K en σ' H' sc' hc' m' ∧ Stp H0 m0 H' m' ∧ forW g c (ds.drop (i + 1)) C sc' hc', fun σ' H' ⟨sc', hc', m', r', s', k'⟩ => ⟨ds.length - (i + 1), by omega, sc', hc', m', r', s', rfl, lt, k'⟩, fun x H2 y => ?_⟩
      obtain ⟨sm, q⟩ := yy x H2 y
      have s2 := s1.trans (.same sm)
      refine ⟨en, sc1, hc1, m1, C.xp, _, _, r1.same sm, q, k1, f.xp, fun sc2 hc2 k2 σ2 H3 m3 r3 s3 => ?_⟩
      have s23 := s2.trans s3
      exact ⟨en, sc2, hc2, m3, _, r3, k2, ⟨fun sc' hc' p' σ' H' m' r' s' => ⟨sc', hc', m', r', s23.trans s', p'⟩, f.nx.step (s0.trans s23), fun sc' hc' p' σ' H' m' r' s' => ⟨sc', hc', m', r', s23.trans s', p'⟩, f.rt, f.xp⟩⟩
    · have e : i = ds.length := by omega
      rw [List.drop_eq_nil_of_le (by omega)] at k1
      exact .inl ⟨ys (by omega), f.nx sc1 hc1 k1 σ1 H1 m1 r1 (s0.trans s1)⟩⟩
/-- over a list (a tuple): a value -/
def cItL (ce : CEx) : CIx := fun E sc hc P => ce E sc hc fun d hc1 => match d with | .lst xs => P xs hc1 | _ => False
def cItT (ce : CEx) : CIx := fun E sc hc P => ce E sc hc fun d hc1 => match d with | .tup xs => P xs hc1 | _ => False
theorem ci_l (h : CE X W e ce) : CI X W tg e (cItL ce) := ⟨pi_wk (pi_list h.p) fun σ H R ⟨en, sc, hc, m, E, P, r, k, xo, fin⟩ =>
  ⟨en, sc, hc, m, E, _, r, k, xo, fun d hc1 p v H1 m1 x1 q => by
    have r1 := r.call x1
    cases d <;> try exact p.elim
    rename_i xs
    unfold Rep at q
    obtain ⟨a, vs, rfl, na, q1, q2⟩ := q
    refine ⟨a, rfl, ⟨vs, .of q1⟩, fin xs hc1 p _ H1 m1 x1 fun H2 m2 mo s2 i => ⟨fun d e => ?_, fun hl => ⟨vs, .of (s2.keep _ _ q1 na), by rw [← q2.length]; exact hl⟩⟩⟩
    obtain ⟨w, e1, q3⟩ := q2.get e
    have hq := SqL.of (K := X.K) (s2.keep _ _ q1 na)
    refine ⟨⟨vs, w, hq, e1⟩, fun x H3 y => ?_⟩
    obtain ⟨e3, y⟩ := y
    have e4 := y vs hq
    rw [e1] at e4; cases e4
    subst e3
    exact ⟨.refl _, Rep.mono r1.mu s2 _ _ q3⟩⟩⟩
theorem ci_t (h : CE X W e ce) : CI X W tg e (cItT ce) := ⟨pi_wk (pi_tup h.p) fun σ H R ⟨en, sc, hc, m, E, P, r, k, xo, fin⟩ =>
  ⟨en, sc, hc, m, E, _, r, k, xo, fun d hc1 p v H1 m1 x1 q => by
    have r1 := r.call x1
    cases d <;> try exact p.elim
    rename_i xs
    unfold Rep at q
    obtain ⟨a, vs, rfl, q1, q2⟩ := q
    refine ⟨a, rfl, ⟨vs, q1⟩, fin xs hc1 p _ H1 m1 x1 fun H2 m2 mo s2 i => ⟨fun d e => ?_, fun hl => ⟨vs, sqt_step r1.mu s2 q1, by rw [← q2.length]; exact hl⟩⟩⟩
    obtain ⟨w, e1, q3⟩ := q2.get e
    have hq := sqt_step r1.mu s2 q1
    refine ⟨⟨vs, w, hq, e1⟩, fun x H3 y => ?_⟩
    obtain ⟨e3, y⟩ := y
    have e4 := y vs hq
    rw [e1] at e4; cases e4
    subst e3
    exact ⟨.refl _, Rep.mono r1.mu s2 _ _ q3⟩⟩⟩
def rngD (lo hi : Int) : List D := (List.range (hi - lo).toNat).map fun k : Nat => D.int (lo + (k : Int))
theorem rng_yields {K : PySem.W.Frag} {H : Hp} {m : Ms} (lo hi : Int) : Yields K (Itr lo (hi - lo).toNat) (rngD lo hi) H m := fun H2 m2 mo s2 i => by
  refine ⟨fun d e => ?_, fun hl => ?_⟩
  · unfold rngD at e
    rw [List.getElem?_map] at e
    by_cases lt : i < (hi - lo).toNat
    · rw [List.getElem?_range lt] at e
      cases e
      refine ⟨lt, fun x H3 y => ?_⟩
      obtain ⟨e1, e2⟩ := y
      subst e1; subst e2
      exact ⟨.refl _, rep_int⟩
    · rw [List.getElem?_eq_none (by rw [List.length_range]; omega)] at e
      cases e
  · unfold rngD at hl
    rw [List.length_map, List.length_range] at hl
    exact hl
def cR1 (ca : CAx) : CIx := fun E sc hc P => ca E sc hc fun ds hc1 => match ds with | [.int hi] => P (rngD 0 hi) hc1 | _ => False
def cR2 (ca : CAx) : CIx := fun E sc hc P => ca E sc hc fun ds hc1 => match ds with | [.int lo, .int hi] => P (rngD lo hi) hc1 | _ => False
theorem ci_r1 {p2 : Pos} (hm : X.mg "range" = none) (h : CA X W [e] ca) (hg : Gl X "range" := by rfl) (hs : starEach [e] X.env = [(false, eval e X.env)] := by rfl) : CI X W tg (.Call (.Name "range" p2) [e] [] pos) (cR1 ca) := ⟨pi_wk (piR1 hg hm h.p hs) fun σ H R ⟨en, sc, hc, m, E, P, r, k, xo, fin⟩ =>
  ⟨en, sc, hc, m, E, _, r, k, xo, fun ds hc1 p vs H1 m1 x1 q => by
    split at p
    · unfold RepL at q
      obtain ⟨v, _, rfl, q1, q⟩ := q
      unfold RepL at q; unfold Rep at q1
      subst q; subst q1
      rename_i hi
      refine ⟨hi, rfl, ?_⟩
      have z : (hi - 0).toNat = hi.toNat := by rw [Int.sub_zero]
      have yl := rng_yields (K := X.K) (H := H1) (m := m1) 0 hi
      rw [z] at yl
      exact fin _ hc1 p _ H1 m1 x1 yl
    · exact p.elim⟩⟩
theorem ci_r2 {e2 : Expr} {p2 : Pos} (hm : X.mg "range" = none) (h : CA X W [e, e2] ca) (hg : Gl X "range" := by rfl) (hs : starEach [e, e2] X.env = [(false, eval e X.env), (false, eval e2 X.env)] := by rfl) (hs2 : starEach [e2] X.env = [(false, eval e2 X.env)] := by rfl) : CI X W tg (.Call (.Name "range" p2) [e, e2] [] pos) (cR2 ca) := ⟨pi_wk (piR2 hg hm h.p hs hs2) fun σ H R ⟨en, sc, hc, m, E, P, r, k, xo, fin⟩ =>
  ⟨en, sc, hc, m, E, _, r, k, xo, fun ds hc1 p vs H1 m1 x1 q => by
    split at p
    · unfold RepL at q
      obtain ⟨v, _, rfl, q1, q⟩ := q
      unfold RepL at q
      obtain ⟨v2, _, rfl, q2, q⟩ := q
      unfold RepL at q; unfold Rep at q1 q2
      subst q; subst q1; subst q2
      exact ⟨_, _, rfl, fin _ hc1 p _ H1 m1 x1 (rng_yields _ _)⟩
    · exact p.elim⟩⟩
end
end Mn

namespace Mn
open PySem PySem.Spec PyProof.Rows L2
/-! ### comprehensions -/
def wipeC (sc : List Sl) : List Nat → List Sl
  | [] => sc
  | v :: vs => (wipeC sc vs).set v .un
theorem wipeC_len (sc : List Sl) : ∀ vs : List Nat, (wipeC sc vs).length = sc.length
  | [] => rfl
  | v :: vs => by unfold wipeC; rw [List.length_set, wipeC_len sc vs]
theorem wipeC_get {sc : List Sl} {i : Nat} {x : Sl} : ∀ {vs : List Nat}, (wipeC sc vs)[i]? = some x → x ≠ .un → sc[i]? = some x ∧ i ∉ vs
  | [], h, _ => ⟨h, by simp⟩
  | v :: vs, h, hx => by
    unfold wipeC at h
    by_cases hi : v = i
    · subst hi
      by_cases l : v < (wipeC sc vs).length
      · rw [List.getElem?_set_self l] at h; cases h; exact absurd rfl hx
      · rw [List.getElem?_eq_none (by rw [List.length_set]; omega)] at h; cases h
    · rw [List.getElem?_set_ne hi] at h
      obtain ⟨a, b⟩ := wipeC_get h hx
      exact ⟨a, fun z => by rcases List.mem_cons.mp z with z | z; exact hi z.symm; exact b z⟩
theorem wipe_get {σ : L2.St} {i : Nat} : ∀ {vs : List Nat}, i ∉ vs → (wipe σ vs)[i]? = σ[i]?
  | [], _ => rfl
  | v :: vs, h => by
    unfold wipe
    rw [List.getElem?_set_ne (fun z => h (by rw [z]; exact List.mem_cons_self)), wipe_get (fun z => h (List.mem_cons_of_mem _ z))]
theorem Rs.wipe {K : PySem.W.Frag} {en : En} {σ : L2.St} {H : Hp} {sc : List Sl} {hc : CH} {m : Ms} (r : Rs K en σ H sc hc m) (vs : List Nat) : Rs K en (L2.wipe σ vs) H (wipeC sc vs) hc m := by
  refine ⟨r.toEx, fun i d e => ?_, fun i ds e => ?_, fun i j ds es p e1 e2 e3 e4 => ?_, by rw [wipeC_len, wipe_length]; exact r.len⟩
  · obtain ⟨a, b⟩ := wipeC_get e (fun z => nomatch z)
    rw [wipe_get b]
    exact r.slot i d a
  · obtain ⟨a, b⟩ := wipeC_get e (fun z => nomatch z)
    rw [wipe_get b]
    exact r.own i ds a
  · obtain ⟨a, b⟩ := wipeC_get e1 (fun z => nomatch z)
    obtain ⟨a2, b2⟩ := wipeC_get e2 (fun z => nomatch z)
    rw [wipe_get b] at e3
    rw [wipe_get b2] at e4
    exact r.sep i j ds es p a a2 e3 e4
/-- a comprehension's target: names of its own -/
def LGk (X : Cx) (W : WX) (vs : List Nat) (g : CGx) : TG := fun v σ H Q => ∃ en sc hc m E d P, Rs X.K en σ H sc hc m ∧ Rep X.K H m d v ∧ g E d sc hc P ∧ XOk X W en E ∧
  ∀ sc' hc', P sc' hc' → ∀ σ', Rs X.K en σ' H sc' hc' m → hc' = hc → L2.wipe σ' vs = L2.wipe σ vs → Q σ' H
structure CGk (X : Cx) (W : WX) (vs : List Nat) (e : Expr) (g : CGx) : Prop where
  p : PG X e (LGk X W vs g)
def LGsk (X : Cx) (W : WX) (vs : List Nat) (g : CGsx) : TGs := fun ws σ H Q => ∃ en sc hc m E ds P, Rs X.K en σ H sc hc m ∧ RepL X.K H m ds ws ∧ g E ds sc hc P ∧ XOk X W en E ∧
  ∀ sc' hc', P sc' hc' → ∀ σ', Rs X.K en σ' H sc' hc' m → hc' = hc → L2.wipe σ' vs = L2.wipe σ vs → Q σ' H
structure CGsk (X : Cx) (W : WX) (vs : List Nat) (es : List Expr) (g : CGsx) : Prop where
  p : PGs X es (LGsk X W vs g)
theorem wipe_in {j : Nat} : ∀ {vs : List Nat} (τ : L2.St), j ∈ vs → (L2.wipe τ vs)[j]? = if j < τ.length then some none else none
  | [], _, h => by simp at h
  | a :: r, τ, h => by
    unfold L2.wipe
    by_cases ha : a = j
    · subst ha
      by_cases l : a < τ.length
      · rw [if_pos l, List.getElem?_set_self (by rw [wipe_length]; exact l)]
      · rw [if_neg l, List.getElem?_eq_none (by rw [List.length_set, wipe_length]; omega)]
    · rw [List.getElem?_set_ne ha]
      rcases List.mem_cons.mp h with z | z
      · exact absurd z.symm ha
      · exact wipe_in τ z
theorem wipe_set {σ : L2.St} {i : Nat} {v : Option V} {vs : List Nat} (h : i ∈ vs) : L2.wipe (σ.set i v) vs = L2.wipe σ vs := by
  refine List.ext_getElem? fun j => ?_
  by_cases hj : j ∈ vs
  · rw [wipe_in _ hj, wipe_in _ hj, List.length_set]
  · rw [wipe_get hj, wipe_get hj, List.getElem?_set_ne (fun z => hj (by rw [← z]; exact h))]
section
variable {X : Cx} {W : WX} {a b e tg iter elt : Expr} {es ifs : List Expr} {ca cb ce : CEx} {ct : CTx} {c : CAx} {pos : Pos} {vs : List Nat}
theorem wipe_idem (σ : L2.St) (vs : List Nat) : L2.wipe (L2.wipe σ vs) vs = L2.wipe σ vs := by
  refine List.ext_getElem? fun j => ?_
  by_cases hj : j ∈ vs
  · rw [wipe_in _ hj, wipe_in _ hj, wipe_length]
  · rw [wipe_get hj]
theorem cgk_n (i : Nat) {x : Str} (hN : X.N.Nodup) (hm : i ∈ vs := by decide) (hi : X.N[i]? = some x := by rfl) (hx : Loc X.env.scope x := by first | exact Or.inl rfl | exact Or.inr rfl) (hf : X.fn x = true ∨ X.env.scope.names.lookup x = some .local := by first | exact .inl rfl | exact .inr rfl) : CGk X W vs (.Name x pos) (gN i) :=
  ⟨pg_wk (pg_name hN hi hx hf) fun v σ H Q ⟨en, sc, hc, m, E, d, P, r, q, k, xo, f⟩ => f _ hc k _ (r.put i q) rfl (wipe_set hm)⟩
theorem cgsk_nil : CGsk X W vs [] gNil' := ⟨pgs_wk pgs_nil fun ws σ H Q ⟨en, sc, hc, m, E, ds, P, r, q, k, xo, f⟩ => by
  cases ds with
  | nil => unfold RepL at q; subst q; exact ⟨rfl, f sc hc k σ r rfl rfl⟩
  | cons d ds => exact k.elim⟩
theorem cgsk_cons {g : CGx} {gs : CGsx} (h1 : CGk X W vs e g) (h2 : CGsk X W vs es gs) (hs : (assignEach (e :: es) X.env).map (·.2) = assign e X.env :: (assignEach es X.env).map (·.2) := by rfl) : CGsk X W vs (e :: es) (gCons' g gs) :=
  ⟨pgs_wk (pgs_cons h1.p h2.p hs) fun ws σ H Q ⟨en, sc, hc, m, E, ds, P, r, q, k, xo, f⟩ => by
    cases ds with
    | nil => exact k.elim
    | cons d ds =>
      unfold RepL at q
      obtain ⟨v, vr, rfl, q1, q2⟩ := q
      exact ⟨v, vr, rfl, en, sc, hc, m, E, d, _, r, q1, k, xo, fun sc1 hc1 k1 σ1 r1 e1 w1 => ⟨en, sc1, hc1, m, E, ds, P, r1, q2, k1, xo, fun sc2 hc2 k2 σ2 r2 e2 w2 => f sc2 hc2 k2 σ2 r2 (e2.trans e1) (w2.trans w1)⟩⟩⟩
theorem cgk_t {gs : CGsx} {n k : Nat} (hc : X.calm = true) (h : CGsk X W vs es gs) (hn : (assignEach es X.env).length = n := by rfl) (hst : (assignEach es X.env).findIdx? (·.1) = none := by rfl) : CGk X W vs (.Tuple es k pos) (gTup' n gs) :=
  ⟨pg_wk (pg_tup hc h.p hn hst) fun v σ H Q ⟨en, sc, hc, m, E, d, P, r, q, k, xo, f⟩ => by
    cases d <;> try exact k.elim
    unfold Rep at q
    obtain ⟨p, ws, rfl, q1, q2⟩ := q
    exact ⟨p, ws, rfl, q1, by rw [← q2.length]; exact k.1, en, sc, hc, m, E, _, P, r, q2, k.2, xo, f⟩⟩
/-- the comprehension's turns -/
def lcW (g : CGx) (t : CTx) (ce : CEx) (own : List Nat) (sc : List Sl) : List D → List D → CH → (List D → CH → Prop) → Prop
  | [], acc, hc, P => P acc hc
  | d :: ds, acc, hc, P => g (fun _ _ _ => False) d (wipeC sc own) hc fun sc1 hc1 => t (fun _ _ _ => False) sc1 hc1 fun b hc2 =>
    if b = true then ce (fun _ _ _ => False) sc1 hc2 fun y hc3 => lcW g t ce own sc ds (acc ++ [y]) hc3 P else lcW g t ce own sc ds acc hc2 P
def cLc (ci : CIx) (g : CGx) (t : CTx) (ce : CEx) (own : List Nat) : CEx := fun E sc hc P => ci E sc hc fun ds hc1 => ds.length ≤ sizeLine ∧ lcW g t ce own sc ds [] hc1 fun out hc2 => P (.lst out) hc2
structure CTs (X : Cx) (W : WX) (es : List Expr) (c : CTx) : Prop where
  p : PTs X es (LT X W c)
def cYes : CTx := fun _ _ hc P => P true hc
theorem cts_nil : CTs X W [] cYes := ⟨⟨fun pins s σ H Q I ⟨en, sc, hc, m, E, P, r, k, xo, fin⟩ => pts_nil.run pins s σ H Q I (fin _ hc k H m (.refl r.toWd))⟩⟩
theorem cts_one (h : CT X W e ct) : CTs X W [e] ct := ⟨pts_one h.p⟩
theorem lc_gen {ci : CIx} {g : CGx} {σ : L2.St} {H : Hp} {Q : VK} {en : En} {sc : List Sl} {hc : CH} {m : Ms} {E : XP} {P : List D → CH → Prop} (r : Rs X.K en σ H sc hc m)
    (k : ci E sc hc fun ds hc1 => ds.length ≤ sizeLine ∧ lcW g ct ce vs sc ds [] hc1 P) (xo : XOk X W en E)
    (fin : ∀ acc hc', P acc hc' → ∀ L H' m' ws, Ex X.K ⟨H, hc, m⟩ H' hc' m' → m' L → hc' L = none → H' L = some (.lst ws) → RepL X.K H' m' acc ws → H L = none → Q (.ref L) H')
    : tLc (LI X W ci) (LGk X W vs g) (LT X W ct) (LE X W ce) vs σ H Q := by
  refine ⟨en, sc, hc, m, E, _, r, k, xo, fun ds hc1 ⟨lz, k1⟩ J H1 m1 x1 yl L nL => ?_⟩
  have hx : XOk X W en (fun _ _ _ => False) := fun _ _ _ z => z.elim
  have w1 : Wd X.K H1 hc1 m1 := x1.toWd
  have hL : hc1 L = none := hc_none w1 nL
  have nm : ¬ m1 L := fun z => by obtain ⟨us, e⟩ := w1.mu L z; rw [nL] at e; cases e
  have st0 : Stp H1 m1 (upd H1 L (.lst [])) (fun a => m1 a ∨ a = L) := ⟨fun a o e _ => same_upd nL a o e, fun a z => z.elim .inl fun e => .inr (by rw [e]; exact nL)⟩
  have ex0 : Ex X.K ⟨H1, hc1, m1⟩ (upd H1 L (.lst [])) hc1 (fun a => m1 a ∨ a = L) := by
    refine ⟨⟨fun a z => ?_, fun a es e => .inl (w1.hm a es e), fun a es e => ?_⟩, w1.mu, w1.hm, fun a o e _ => same_upd nL a o e, st0.grow, fun a z _ => .inl z, fun a es e => .inl (by show hc1 a ≠ none; rw [e]; simp), fun a o e => by rw [same_upd nL a o e]; simp⟩
    · rcases z with z | rfl
      · obtain ⟨ws, e⟩ := w1.mu a z
        exact ⟨ws, same_upd nL _ _ e⟩
      · exact ⟨[], upd_same⟩
    · obtain ⟨ws, e1, q1⟩ := w1.heap a es e
      exact ⟨ws, same_upd nL _ _ e1, RepL.mono w1.mu st0 _ _ q1⟩
  refine ⟨fun i mm H' => ∃ hc' m' acc ws, Ex X.K ⟨H1, hc1, m1⟩ H' hc' m' ∧ m' L ∧ hc' L = none ∧ H' L = some (.lst ws) ∧ RepL X.K H' m' acc ws ∧ mm = ds.length - i ∧ i ≤ ds.length ∧ acc.length ≤ i ∧ lcW g ct ce vs sc (ds.drop i) acc hc' P,
    ⟨_, hc1, _, [], [], ex0, .inr rfl, hL, upd_same, RepL.nil, rfl, Nat.zero_le _, Nat.le_refl _, k1⟩, ?_⟩
  rintro i mm H' ⟨hc', m', acc, ws, x', mL, hL', HL, ra, rfl, hi, hacc, k'⟩
  have xx : Ex X.K ⟨H, hc, m⟩ H' hc' m' := x1.trans x'
  have r' := r.call xx
  obtain ⟨yg, ys⟩ := yl H' m' x'.mu x'.stp i
  by_cases lt : i < ds.length
  · rw [List.drop_eq_getElem_cons lt] at k'
    obtain ⟨go, yy⟩ := yg _ (List.getElem?_eq_getElem lt)
    refine .inr ⟨go, fun H2 => ∃ hc2 m2 acc ws, Ex X.K ⟨H1, hc1, m1⟩ H2 hc2 m2 ∧ m2 L ∧ hc2 L = none ∧ H2 L = some (.lst ws) ∧ RepL X.K H2 m2 acc ws ∧ acc.length ≤ i + 1 ∧ lcW g ct ce vs sc (ds.drop (i + 1)) acc hc2 P,
      fun H2 ⟨hc2, m2, acc, ws, a1, a2, a3, a4, a5, a6, a7⟩ => ⟨ds.length - (i + 1), by omega, hc2, m2, acc, ws, a1, a2, a3, a4, a5, rfl, lt, a6, a7⟩, fun x H2 y => ?_⟩
    obtain ⟨sm, q⟩ := yy x H2 y
    have xs2 : Ex X.K ⟨H', hc', m'⟩ H2 hc' m' := Ex.same x'.toWd sm
    have r2 := (r'.same sm).wipe vs
    refine ⟨en, wipeC sc vs, hc', m', (fun _ _ _ => False), ds[i], _, r2, q, k', hx, fun sc3 hc3 k3 σ3 r3 e3 w3 => ⟨by rw [w3]; exact wipe_idem _ _, ?_⟩⟩
    subst e3
    refine ⟨en, sc3, hc3, m', _, _, r3, k3, hx, fun b hc4 k4 H4 m4 x4 => ?_⟩
    have e34 : Ex X.K ⟨H1, hc1, m1⟩ H4 hc4 m4 := (x'.trans xs2).trans x4
    have keepL : ∀ {Hb : Hp} {hcb : CH} {mb : Ms}, Ex X.K ⟨H', hc3, m'⟩ Hb hcb mb → mb L ∧ hcb L = none ∧ Hb L = some (.lst ws) ∧ RepL X.K Hb mb acc ws := fun {Hb hcb mb} x => by
      refine ⟨x.hold L mL hL', ?_, x.keep L _ HL hL', RepL.mono x'.mu x.stp _ _ ra⟩
      cases e : hcb L with
      | none => rfl
      | some es =>
        rcases x.hgrow L es e with y | y
        · exact absurd hL' y
        · have y' : H' L = none := y
          rw [HL] at y'; cases y'
    cases b with
    | true =>
      rw [if_pos rfl] at k4
      refine iteT ⟨en, sc3, hc4, m4, _, _, r3.call x4, k4, hx, fun y hc5 k5 v H5 m5 x5 q5 => ?_⟩
      obtain ⟨b1, b2, b3, b4⟩ := keepL ((xs2.trans x4).trans x5)
      have e5 : Ex X.K ⟨H1, hc1, m1⟩ H5 hc5 m5 := e34.trans x5
      have lw : ws.length = acc.length := b4.length.symm
      refine ⟨ws, b3, by omega, hc5, m5, acc ++ [y], ws ++ [v], ?_⟩
      have st : Stp H5 m5 (upd H5 L (.lst (ws ++ [v]))) m5 := ⟨fun a o e n => by rw [upd_ne (fun z => n (by rw [z]; exact b1))]; exact e, fun _ h => .inl h⟩
      refine ⟨⟨⟨fun a z => ?_, e5.hm, fun a es e => ?_⟩, w1.mu, w1.hm, fun a o e n => ?_, e5.grow, e5.hold, e5.hgrow, fun a o e => ?_⟩, b1, b2, upd_same, RepL.mono e5.mu st _ _ (b4.append (RepL.one q5)), by rw [List.length_append]; simp; omega, k5⟩
      · by_cases h : a = L
        · subst h; exact ⟨_, upd_same⟩
        · rw [upd_ne h]; exact e5.mu a z
      · have h : a ≠ L := fun z => by rw [z, b2] at e; cases e
        obtain ⟨us, e1, q1⟩ := e5.heap a es e
        exact ⟨us, by rw [upd_ne h]; exact e1, RepL.mono e5.mu st _ _ q1⟩
      · rw [upd_ne (fun z => by rw [z] at e; have e' : H1 L = some o := e; rw [nL] at e'; cases e')]
        exact e5.keep a o e n
      · by_cases h : a = L
        · subst h; rw [upd_same]; simp
        · rw [upd_ne h]; exact e5.live a o e
    | false =>
      rw [if_neg Bool.false_ne_true] at k4
      obtain ⟨b1, b2, b3, b4⟩ := keepL (xs2.trans x4)
      exact iteF ⟨hc4, m4, acc, ws, e34, b1, b2, b3, b4, by omega, k4⟩
  · have e : i = ds.length := by omega
    rw [List.drop_eq_nil_of_le (by omega)] at k'
    refine .inl ⟨ys (by omega), ?_⟩
    have xa : Ex X.K ⟨H, hc, m⟩ H' hc' m' := xx
    have hH : H L = none := by
      cases e : H L with
      | none => rfl
      | some o => exact absurd nL (x1.live L o e)
    exact fin acc hc' k' L H' m' ws xa mL hL' HL ra hH
theorem lc_lift {ci : CIx} {g : CGx} {σ : L2.St} {H : Hp} {Q : VK} (h : LE X W (cLc ci g ct ce vs) σ H Q) : tLc (LI X W ci) (LGk X W vs g) (LT X W ct) (LE X W ce) vs σ H Q := by
  obtain ⟨en, sc, hc, m, E, P, r, k, xo, fin⟩ := h
  refine lc_gen r k xo fun acc hc' k' L H' m' ws xa mL hL' HL ra hH => ?_
  obtain ⟨x6, st6⟩ := xa.drop (p := L) hH hL'
  refine fin _ hc' k' _ H' _ x6 ?_
  unfold Rep
  exact ⟨L, ws, rfl, fun z => z.2 rfl, HL, RepL.mono xa.mu st6 _ _ ra⟩
/-- the same, a list that will be changed -/
def cLcM (ci : CIx) (g : CGx) (t : CTx) (ce : CEx) (own : List Nat) : CEx := fun E sc hc P => ci E sc hc fun ds hc1 => ds.length ≤ sizeLine ∧ lcW g t ce own sc ds [] hc1 fun out hc2 => ∀ p, hc2 p = none → P (.ref p) (updc hc2 p out)
theorem lc_liftM {ci : CIx} {g : CGx} {σ : L2.St} {H : Hp} {Q : VK} (h : LE X W (cLcM ci g ct ce vs) σ H Q) : tLc (LI X W ci) (LGk X W vs g) (LT X W ct) (LE X W ce) vs σ H Q := by
  obtain ⟨en, sc, hc, m, E, P, r, k, xo, fin⟩ := h
  refine lc_gen r k xo fun acc hc' k' L H' m' ws xa mL hL' HL ra hH => ?_
  refine fin _ _ (k' L hL') _ H' m' ⟨⟨xa.mu, fun a es e => ?_, fun a es e => ?_⟩, xa.emut, xa.ehm, xa.keep, xa.grow, xa.hold, fun a es e => ?_, xa.live⟩ (by unfold Rep; rfl)
  · unfold updc at e
    by_cases ha : a = L
    · rw [ha]; exact mL
    · rw [if_neg ha] at e; exact xa.hm a es e
  · unfold updc at e
    by_cases ha : a = L
    · rw [if_pos ha] at e; cases e
      subst ha
      exact ⟨ws, HL, ra⟩
    · rw [if_neg ha] at e; exact xa.heap a es e
  · unfold updc at e
    by_cases ha : a = L
    · rw [ha]; exact .inr hH
    · rw [if_neg ha] at e; exact xa.hgrow a es e

theorem ce_lc {ci : CIx} {g : CGx} {scope : Scope} {own : List (Str × Nat)} (hc : X.calm = true) (hN : X.N.Nodup) (hi : CI X W tg iter ci) (ok : BlkOk X.N X.env.scope scope own)
    (hg : ∀ (s : Shared) (H : Hp) (C : Addr) (cl : List (Str × Addr)) (fp : List Addr), CGk (X.blk s H scope (compEnvC scope cl C X.env) fp) W (own.map (·.2)) tg g)
    (ht : ∀ (s : Shared) (H : Hp) (C : Addr) (cl : List (Str × Addr)) (fp : List Addr), CTs (X.blk s H scope (compEnvC scope cl C X.env) fp) W ifs ct)
    (he : ∀ (s : Shared) (H : Hp) (C : Addr) (cl : List (Str × Addr)) (fp : List Addr), CE (X.blk s H scope (compEnvC scope cl C X.env) fp) W elt ce) (hs : ∀ x, foldedSetIterable iter X.env x = pure x := by intro _; rfl) :
    CE X W (.ListComp elt [⟨tg, iter, ifs, 0⟩] scope pos) (cLc ci g ct ce (own.map (·.2))) :=
  ⟨pe_wk (pe_lc (g := LGk X W (List.map (fun p : Str × Nat => p.2) own) g) (tt := LT X W ct) (te := LE X W ce) hc hN hi.p ok (fun s H C cl fp => (hg s H C cl fp).p) (fun s H C cl fp => (ht s H C cl fp).p) (fun s H C cl fp => (he s H C cl fp).p) hs) fun σ H Q h => lc_lift h⟩
theorem ce_lcM {ci : CIx} {g : CGx} {scope : Scope} {own : List (Str × Nat)} (hc : X.calm = true) (hN : X.N.Nodup) (hi : CI X W tg iter ci) (ok : BlkOk X.N X.env.scope scope own)
    (hg : ∀ (s : Shared) (H : Hp) (C : Addr) (cl : List (Str × Addr)) (fp : List Addr), CGk (X.blk s H scope (compEnvC scope cl C X.env) fp) W (own.map (·.2)) tg g)
    (ht : ∀ (s : Shared) (H : Hp) (C : Addr) (cl : List (Str × Addr)) (fp : List Addr), CTs (X.blk s H scope (compEnvC scope cl C X.env) fp) W ifs ct)
    (he : ∀ (s : Shared) (H : Hp) (C : Addr) (cl : List (Str × Addr)) (fp : List Addr), CE (X.blk s H scope (compEnvC scope cl C X.env) fp) W elt ce) (hs : ∀ x, foldedSetIterable iter X.env x = pure x := by intro _; rfl) :
    CE X W (.ListComp elt [⟨tg, iter, ifs, 0⟩] scope pos) (cLcM ci g ct ce (own.map (·.2))) :=
  ⟨pe_wk (pe_lc (g := LGk X W (List.map (fun p : Str × Nat => p.2) own) g) (tt := LT X W ct) (te := LE X W ce) hc hN hi.p ok (fun s H C cl fp => (hg s H C cl fp).p) (fun s H C cl fp => (ht s H C cl fp).p) (fun s H C cl fp => (he s H C cl fp).p) hs) fun σ H Q h => lc_liftM h⟩
/-- x = [.. for ..] on one line, x a plain local -/
theorem cs_lc {i : Nat} {y : Str} {py : Pos} {sp2 : Pos} {ci : CIx} {g : CGx} {scope : Scope} {own : List (Str × Nat)} (hc : X.calm = true) (hN : X.N.Nodup) (hi : CI X W tg iter ci) (ok : BlkOk X.N X.env.scope scope own)
    (hg : ∀ (s : Shared) (H : Hp) (C : Addr) (cl : List (Str × Addr)) (fp : List Addr), CGk (X.blk s H scope (compEnvC scope cl C X.env) fp) W (own.map (·.2)) tg g)
    (ht : ∀ (s : Shared) (H : Hp) (C : Addr) (cl : List (Str × Addr)) (fp : List Addr), CTs (X.blk s H scope (compEnvC scope cl C X.env) fp) W ifs ct)
    (he : ∀ (s : Shared) (H : Hp) (C : Addr) (cl : List (Str × Addr)) (fp : List Addr), CE (X.blk s H scope (compEnvC scope cl C X.env) fp) W elt ce) (hy : X.N[i]? = some y := by rfl) (hyl : X.env.scope.names.lookup y = some .local := by rfl)
    (hsw : swapsWith (.ListComp elt [⟨tg, iter, ifs, 0⟩] scope pos) (some (.Name y py)) sp2.line X.env = pure true := by exact sw_true rfl rfl rfl (by decide +kernel)) (hs : ∀ x, foldedSetIterable iter X.env x = pure x := by intro _; rfl) :
    CS X W (.Assign [.Name y py] (.ListComp elt [⟨tg, iter, ifs, 0⟩] scope pos) sp2) (cAsg (cLc ci g ct ce (own.map (·.2))) (gN i)) :=
  ⟨ps_wk (ps_setLc (i := i) (g := LGk X W (List.map (fun p : Str × Nat => p.2) own) g) (tt := LT X W ct) (te := LE X W ce) hc hN hy hyl hsw hi.p ok (fun s H C cl fp => (hg s H C cl fp).p) (fun s H C cl fp => (ht s H C cl fp).p) (fun s H C cl fp => (he s H C cl fp).p) hs) fun D σ H h => by
    obtain ⟨en, sc, hc', m, C, r, k, f⟩ := h
    exact lc_lift ⟨en, sc, hc', m, C.xp, _, r, k, f.xp, fun d hc1 p v H1 m1 x1 q => f.nx _ hc1 p _ H1 m1 ((r.call x1).put i q) x1.stp⟩⟩
end
end Mn

namespace Mn
open PySem PySem.Spec PyProof.Rows L2
/-! ### built-ins -/
theorem wl1 {K : PySem.W.Frag} {H : Hp} {m : Ms} {d : D} {xs : List V} (h : RepWL K H m [d] xs) : ∃ x, xs = [x] ∧ RepW K H m d x := by
  cases h with
  | cons a t => cases t; exact ⟨_, rfl, a⟩
theorem wl2 {K : PySem.W.Frag} {H : Hp} {m : Ms} {d e : D} {xs : List V} (h : RepWL K H m [d, e] xs) : ∃ x y, xs = [x, y] ∧ RepW K H m d x ∧ RepW K H m e y := by
  cases h with
  | cons a t =>
    obtain ⟨y, rfl, b⟩ := wl1 t
    exact ⟨_, _, rfl, a, b⟩
section
variable {X : Cx}
def absD : On := fun ds _ P => match ds with | [.int i] => P (.int (if i < 0 then -i else i)) | _ => False
theorem bf_abs : CallR X (.builtin "abs") (LVn X.K absD) := by
  intro pins s σ H xs us Q I r h
  obtain ⟨hc, m, ds, P, w, h1, f, fin⟩ := h
  unfold absD at f
  split at f
  · obtain ⟨x, rfl, k1⟩ := wl1 h1
    unfold RepW Rep at k1
    subst k1
    exact call_abs pins s σ H _ us Q I r ⟨_, rfl, fin _ f _ _ (.refl H) rep_int⟩
  · exact f.elim
def intFD : On := fun ds _ P => match ds with | [.int i] => P (.int i) | [.bl b] => P (.int (if b then 1 else 0)) | _ => False
theorem bt_int : CallR X (.type "int") (LVn X.K intFD) := by
  intro pins s σ H xs us Q I r h
  obtain ⟨hc, m, ds, P, w, h1, f, fin⟩ := h
  unfold intFD at f
  split at f
  · obtain ⟨x, rfl, k1⟩ := wl1 h1
    unfold RepW Rep at k1
    subst k1
    exact call_int1 pins s σ H _ us Q I r (.inl ⟨_, rfl, fin _ f _ _ (.refl H) rep_int⟩)
  · obtain ⟨x, rfl, k1⟩ := wl1 h1
    unfold RepW Rep at k1
    subst k1
    exact call_int1 pins s σ H _ us Q I r (.inr ⟨_, rfl, fin _ f _ _ (.refl H) rep_int⟩)
  · exact f.elim
def maxD2 : On := fun ds _ P => match ds with | [.int i, .int j] => P (.int (if j > i then j else i)) | _ => False
def minD2 : On := fun ds _ P => match ds with | [.int i, .int j] => P (.int (if j < i then j else i)) | _ => False
theorem bf_max2 (hc : X.calm = true) : CallR X (.builtin "max") (LVn X.K maxD2) := by
  intro pins s σ H xs us Q I r h
  obtain ⟨hc', m, ds, P, w, h1, f, fin⟩ := h
  unfold maxD2 at f
  split at f
  · obtain ⟨x, y, rfl, k1, k2⟩ := wl2 h1
    unfold RepW Rep at k1 k2
    subst k1; subst k2
    exact call_max2 hc pins s σ H _ us Q I r ⟨_, _, rfl, fin _ f _ _ (.refl H) rep_int⟩
  · exact f.elim
theorem bf_min2 (hc : X.calm = true) : CallR X (.builtin "min") (LVn X.K minD2) := by
  intro pins s σ H xs us Q I r h
  obtain ⟨hc', m, ds, P, w, h1, f, fin⟩ := h
  unfold minD2 at f
  split at f
  · obtain ⟨x, y, rfl, k1, k2⟩ := wl2 h1
    unfold RepW Rep at k1 k2
    subst k1; subst k2
    exact call_min2 hc pins s σ H _ us Q I r ⟨_, _, rfl, fin _ f _ _ (.refl H) rep_int⟩
  · exact f.elim
/-- the length of what has one -/
def lenOf (hc : CH) : D → Option Nat
  | .lst xs => some xs.length
  | .tup xs => some xs.length
  | .ref a => (hc a).map List.length
  | .frz xs => some xs.length
  | _ => none
def lenD : On := fun ds hc P => match ds with
  | [.str z] => z.length ≤ sizeLine ∧ P (.int z.length)
  | [.lst xs] => P (.int xs.length)
  | [.tup xs] => P (.int xs.length)
  | [.frz xs] => P (.int xs.length)
  | [.ref a] => oth (hc a) fun xs => P (.int xs.length)
  | _ => False
theorem bf_len : CallR X (.builtin "len") (LVn X.K lenD) := by
  intro pins s σ H xs us Q I r h
  obtain ⟨hc, m, ds, P, w, h1, f, fin⟩ := h
  unfold lenD at f
  split at f
  · obtain ⟨x, rfl, k1⟩ := wl1 h1
    unfold RepW Rep at k1
    subst k1
    exact call_len pins s σ H _ us Q I r ⟨_, _, rfl, ⟨f.1, rfl⟩, fin _ f.2 _ _ (.refl H) rep_int⟩
  · obtain ⟨x, rfl, k1⟩ := wl1 h1
    unfold RepW at k1
    obtain ⟨p, vs, rfl, q, rl⟩ := k1
    exact call_len pins s σ H _ us Q I r ⟨_, _, rfl, .inl ⟨vs, .of q, rl.length⟩, fin _ f _ _ (.refl H) rep_int⟩
  · obtain ⟨x, rfl, k1⟩ := wl1 h1
    unfold RepW Rep at k1
    obtain ⟨p, vs, rfl, q, rl⟩ := k1
    exact call_len pins s σ H _ us Q I r ⟨_, _, rfl, .inr ⟨vs, q, rl.length⟩, fin _ f _ _ (.refl H) rep_int⟩
  · obtain ⟨x, rfl, k1⟩ := wl1 h1
    unfold RepW Rep at k1
    obtain ⟨p, vs, rfl, q, rl⟩ := k1
    exact call_len pins s σ H _ us Q I r ⟨_, _, rfl, .inl ⟨vs, q.sq, rl.length⟩, fin _ f _ _ (.refl H) rep_int⟩
  · obtain ⟨x, rfl, k1⟩ := wl1 h1
    unfold RepW Rep at k1
    subst k1
    obtain ⟨ds, e, f⟩ := oth_of f
    obtain ⟨vs, q, rl⟩ := w.heap _ _ e
    exact call_len pins s σ H _ us Q I r ⟨_, _, rfl, .inl ⟨vs, .of q, rl.length⟩, fin _ f _ _ (.refl H) rep_int⟩
  · exact f.elim
def pyTy : D → String
  | .non => "NoneType"
  | .bl _ => "bool"
  | .int _ => "int"
  | .str _ => "str"
  | .tup _ => "tuple"
  | .lst _ => "list"
  | .ref _ => "list"
  | .frz _ => "list"
  | .dct _ _ => "dict"
/-- whether a class is, or is below, another one -/
def tyB (a n : String) : Bool := a == n || (a == "bool" && n == "int")
def isTy (n : String) (d : D) : Bool := tyB (pyTy d) n
def isiD (n : String) : O1 := fun d hc P => (match d with | .ref a => hc a ≠ none | _ => True) ∧ P (.bl (isTy n d))
theorem tyx_of {K : PySem.W.Frag} {H : Hp} {hc : CH} {m : Ms} (w : Wd K H hc m) : ∀ {d : D} {v : V}, RepW K H m d v → (match d with | .ref a => hc a ≠ none | _ => True) → TyX K H v (.type (pyTy d))
  | .non, v, h, _ => by unfold RepW Rep at h; subst h; exact .base .non
  | .bl _, v, h, _ => by unfold RepW Rep at h; subst h; exact .base (.bl _)
  | .int _, v, h, _ => by unfold RepW Rep at h; subst h; exact .base (.int _)
  | .str _, v, h, _ => by unfold RepW Rep at h; subst h; exact .base (.str _)
  | .tup _, v, h, _ => by
    unfold RepW Rep at h
    obtain ⟨p, vs, rfl, q, _⟩ := h
    rcases q with (q | ⟨o, q⟩) | ⟨o, its, n, q, c, _⟩
    · exact .base (.tup q)
    · exact .fTuple q
    · exact .kTuple q c
  | .lst _, v, h, _ => by unfold RepW at h; obtain ⟨p, vs, rfl, q, _⟩ := h; exact .base (.lst q)
  | .ref a, v, h, ha => by
    unfold RepW Rep at h
    subst h
    cases e : hc a with
    | none => exact absurd e ha
    | some ds =>
      obtain ⟨vs, q, _⟩ := w.heap a ds e
      exact .base (.lst q)
  | .frz _, v, h, _ => by
    unfold RepW Rep at h
    obtain ⟨p, vs, rfl, q, _⟩ := h
    rcases q with ⟨o, q⟩ | ⟨o, its, n, q, c, _⟩
    · exact .base (.frz q)
    · exact .kList q c
  | .dct _ _, v, h, _ => by unfold RepW Rep at h; obtain ⟨p, vs, rfl, _, q, _⟩ := h; exact .base (.dK q)
abbrev tyNs : List String := ["int", "bool", "str", "tuple", "list", "dict"]
theorem kit_tab : ∀ a ∈ "NoneType" :: tyNs, ∀ n ∈ tyNs, kitB a n = some (tyB a n) := by decide +kernel
theorem kit_all {K : PySem.W.Frag} {n : String} (hn : n ∈ tyNs) (d : D) : PySem.W.kitOne K (.type (pyTy d)) (.type n) = some (isTy n d) :=
  kit_ty (kit_tab _ (by cases d <;> simp [pyTy]) n hn)
end
section
variable {X : Cx} {W : WX} {e : Expr} {es : List Expr} {ca : CEx} {pos : Pos}
/-- isinstance(e, T), T a built-in class -/
theorem ce_isi {n : String} {x : Str} {p1 p2 : Pos} (hT : n ∈ tyNs) (hm : X.mg "isinstance" = none) (hm2 : X.mg x = none) (ha : CB X W e ca) (hv2 : bootBuiltins x = some (.type n) := by decide +kernel) (hg : Gl X "isinstance" := by rfl) (hg2 : Gl X x := by rfl) (hn2 : x ≠ "__name__" := by decide) (hd2 : (x == ("__debug__" : Str)) = false := by decide)
    (he : starEach [e, .Name x p2] X.env = (false, eval e X.env) :: starEach [.Name x p2] X.env := by rfl) (he2 : starEach [.Name x p2] X.env = (false, eval (.Name x p2) X.env) :: starEach [] X.env := by rfl) (hpl : (backTo pos (starEach [.Name x p2] X.env)).any (·.1) = false := by rfl) : CE X W (.Call (.Name "isinstance" p1) [e, .Name x p2] [] pos) (cUn (isiD n) ca) :=
  ⟨pe_wk (pe_callB call_isi hg hm (by decide +kernel) (pa_cons ha.p (pa_cons (pe_bltn (v := .ty n) hg2 hm2 hv2 rfl hn2 hd2) pa_nil he2) he) (by decide) (by decide) he hpl) fun σ H Q h => by
    obtain ⟨en, sc, hc, m, E, P, r, k, xo, fin⟩ := h
    refine ⟨en, sc, hc, m, E, _, r, k, xo, fun d hc1 p v H1 m1 x1 q => ?_⟩
    have w1 : Wd X.K H1 hc1 m1 := x1.toWd
    exact ⟨v, .ty n, _, _, _, rfl, .ty n, tyx_of w1 (q.w (r.call x1)) p.1, kit_all hT d, fin _ hc1 p.2 _ H1 m1 x1 rep_bl⟩⟩
end

/-! ### defs -/
def startC (N : List Str) (ds : List D) : List Sl := ds.map Sl.val ++ List.replicate (N.length - ds.length) Sl.un
abbrev W0 : WX := fun _ _ _ _ => False
theorem start_rs {K : PySem.W.Frag} {H : Hp} {hc : CH} {m : Ms} {N : List Str} {ds : List D} {vs : List V} (w : Wd K H hc m) (q : RepL K H m ds vs) : Rs K ⟨H, hc, m⟩ (L2.start N vs) H (startC N ds) hc m := by
  have l := q.length
  refine ⟨.refl w, fun i d e => ?_, fun i es e => ?_, fun i j es fs p e1 e2 e3 e4 => ?_, ?_⟩
  · unfold startC at e
    by_cases h : i < ds.length
    · rw [List.getElem?_append_left (by rw [List.length_map]; exact h), List.getElem?_map] at e
      cases e1 : ds[i]? with
      | none => rw [e1] at e; cases e
      | some d' =>
        rw [e1] at e; cases e
        obtain ⟨v, e2, q2⟩ := q.get e1
        refine ⟨v, ?_, q2⟩
        unfold L2.start
        rw [List.getElem?_append_left (by rw [List.length_map, ← l]; exact h), List.getElem?_map, e2]
        rfl
    · rw [List.getElem?_append_right (by rw [List.length_map]; omega), List.getElem?_replicate] at e
      split at e <;> cases e
  · unfold startC at e
    by_cases h : i < ds.length
    · rw [List.getElem?_append_left (by rw [List.length_map]; exact h), List.getElem?_map] at e
      cases e1 : ds[i]? with
      | none => rw [e1] at e; cases e
      | some d' => rw [e1] at e; cases e
    · rw [List.getElem?_append_right (by rw [List.length_map]; omega), List.getElem?_replicate] at e
      split at e <;> cases e
  · unfold startC at e1
    by_cases h : i < ds.length
    · rw [List.getElem?_append_left (by rw [List.length_map]; exact h), List.getElem?_map] at e1
      cases e5 : ds[i]? with
      | none => rw [e5] at e1; cases e1
      | some d' => rw [e5] at e1; cases e1
    · rw [List.getElem?_append_right (by rw [List.length_map]; omega), List.getElem?_replicate] at e1
      split at e1 <;> cases e1
  · unfold L2.start startC
    rw [List.length_append, List.length_append, List.length_map, List.length_map, List.length_replicate, List.length_replicate, l]
section
variable {P : Program} {w : World} {K : PySem.W.Frag} {mg : Str → Option Value} {base : Heap} {x qual : Str} {params : Arguments} {body : List Stmt} {scope : Scope} {dvs : List V} {kws : List (Str × V)} {f : Addr} {fd : FuncData}
/-- a def that raises nothing: its clean reading c and its promise sp -/
theorem fn_ok {N ps : List Str} {k : Nat} {sp : Spc} {c : CSx} (F : FunD K x qual params body scope dvs kws f fd) (S : FnScope N ps scope)
    (hb : ∀ (cdv : Value) (A : Around) (outer : List Env) (s : Shared) (H : Hp) (E : XK), RG k (A.deeper (envOfC qual scope s.heap.objs.size f cdv)) → CSs (cxOf CX0 P w K mg base N qual scope f cdv A outer s H E).nox W0 body c)
    (hl : ∀ ds hc Q E, sp ds hc Q E → ds.length = ps.length)
    (hp : ∀ ds hc (Q : D → CH → Prop) E, sp ds hc Q E → c { nx := fun _ hc' => Q .non hc', rt := Q } (startC N ds) hc) : FnG P w K mg base CX0 (k + 1) f fd ps (toSp K mg sp) := by
  obtain ⟨oc, od, dV, kV, doc, pm, an, cdv, ct, osl, rfl, lk, hcd, _, _⟩ := F.ex
  refine fnG_of lk hcd S (fun vs H Q E ⟨hc, m, ds, P', PE, w', rl, h, _⟩ => by rw [← rl.length]; exact hl ds hc _ _ h) fun A outer s H vs Q E hr ⟨hc, m, ds, P', PE, w', rl, h, f1, f2⟩ => ⟨_, (hb cdv A outer s H E hr).p.nox, ?_⟩
  exact ⟨_, _, hc, m, _, start_rs w' rl, hp ds hc P' PE h, ⟨fun sc' hc' q σ' H' m' r' s' => f1 _ hc' q _ H' m' r'.toEx rep_non, fun _ _ z => z.elim, fun _ _ z => z.elim, fun d hc' q v H' m' x' r' => f1 d hc' q v H' m' x' r', fun _ _ _ z => z.elim⟩⟩
end
end Mn

namespace Mn
open PySem PySem.Spec PyProof.Rows L2
section
variable {X : Cx} {W : WX} {tg e : Expr} {es : List Expr} {ce : CEx} {pos : Pos}
/-! ### a tuple or a list: unpacked, walked -/
theorem pg_or {t u : TG} (h : PG X e t) (g : PG X e u) : PG X e (fun v σ H Q => t v σ H Q ∨ u v σ H Q) := ⟨fun pins s σ H v w Q I r q => q.elim (h.run pins s σ H v w Q I r) (g.run pins s σ H v w Q I r)⟩
def gUn (n : Nat) (gs : CGsx) : CGx := fun E d sc hc P => match d with
  | .tup xs => xs.length = n ∧ gs E xs sc hc P
  | .lst xs => xs.length = n ∧ gs E xs sc hc P
  | .ref a => oth (hc a) fun xs => xs.length = n ∧ gs E xs sc hc P
  | _ => False
theorem cg_u {gs : CGsx} {n k : Nat} (hc : X.calm = true) (h : CGs X W es gs) (hn : (assignEach es X.env).length = n := by rfl) (hst : (assignEach es X.env).findIdx? (·.1) = none := by rfl) : CG X W (.Tuple es k pos) (gUn n gs) :=
  ⟨pg_wk (pg_or (cg_t (n := n) hc h hn hst).p (cg_l (n := n) hc h hn hst).p) fun v σ H Q ⟨en, sc, hc, m, E, d, P, r, q, k, xo, f⟩ => by
    cases d <;> try exact k.elim
    · exact .inl ⟨en, sc, hc, m, E, _, P, r, q, k, xo, f⟩
    · exact .inr ⟨en, sc, hc, m, E, _, P, r, q, k, xo, f⟩
    · exact .inr ⟨en, sc, hc, m, E, _, P, r, q, k, xo, f⟩⟩
theorem pi_seq {te : TE} (h : PE X e te) : PI X tg e (fun σ H R => te σ H fun x H1 => ∃ a, x = .ref a ∧ (((∃ xs, SqL X.K H1 a xs) ∧ R (Itl X.K a) H1) ∨ ((∃ xs, SqT X.K H1 a xs) ∧ R (Itt X.K a) H1))) :=
  ⟨fun pins s σ H R I hw => thn (h.run pins s σ H _ I hw) fun v s1 ⟨x, H1, I1, r1, a, ex, q⟩ => by
    subst ex
    cases r1
    rcases q with ⟨⟨xs, hq⟩, q⟩ | ⟨⟨xs, hq⟩, q⟩
    · obtain ⟨its, _, pl, _⟩ := I1.list hq
      exact wpAny_pyIter_list pl.isList (pi_one I1 (tk := s1.toks) _ (turn_list a _) ⟨_, Heap.get?_push_size _ rfl, rfl, rfl⟩ q)
    · obtain ⟨its, _, pt, _⟩ := I1.tuple hq
      exact wpAny_pyIter_tuple pt (pi_one I1 (tk := s1.toks) _ (turn_tuple a _) ⟨_, Heap.get?_push_size _ rfl, rfl, rfl⟩ q)⟩
def cIt (ce : CEx) : CIx := fun E sc hc P => ce E sc hc fun d hc1 => match d with | .lst xs => P xs hc1 | .tup xs => P xs hc1 | .frz xs => P xs hc1 | _ => False
theorem ci_e (h : CE X W e ce) : CI X W tg e (cIt ce) := ⟨pi_wk (pi_seq h.p) fun σ H R ⟨en, sc, hc, m, E, P, r, k, xo, fin⟩ =>
  ⟨en, sc, hc, m, E, _, r, k, xo, fun d hc1 p v H1 m1 x1 q => by
    have r1 := r.call x1
    have mu1 := r1.mu
    cases d <;> try exact p.elim
    · rename_i xs
      unfold Rep at q
      obtain ⟨a, vs, rfl, q1, q2⟩ := q
      refine ⟨a, rfl, .inr ⟨⟨vs, q1⟩, fin xs hc1 p _ H1 m1 x1 fun H2 m2 mo s2 i => ⟨fun d e => ?_, fun hl => ⟨vs, sqt_step mu1 s2 q1, by rw [← q2.length]; exact hl⟩⟩⟩⟩
      obtain ⟨w, e1, q3⟩ := q2.get e
      have hq := sqt_step mu1 s2 q1
      refine ⟨⟨vs, w, hq, e1⟩, fun x H3 ⟨e3, y⟩ => ?_⟩
      have e4 := y vs hq
      rw [e1] at e4; cases e4
      subst e3
      exact ⟨.refl _, Rep.mono mu1 s2 _ _ q3⟩
    · rename_i xs
      unfold Rep at q
      obtain ⟨a, vs, rfl, na, q1, q2⟩ := q
      refine ⟨a, rfl, .inl ⟨⟨vs, .of q1⟩, fin xs hc1 p _ H1 m1 x1 fun H2 m2 mo s2 i => ⟨fun d e => ?_, fun hl => ⟨vs, .of (s2.keep _ _ q1 na), by rw [← q2.length]; exact hl⟩⟩⟩⟩
      obtain ⟨w, e1, q3⟩ := q2.get e
      have hq := SqL.of (K := X.K) (s2.keep _ _ q1 na)
      refine ⟨⟨vs, w, hq, e1⟩, fun x H3 ⟨e3, y⟩ => ?_⟩
      have e4 := y vs hq
      rw [e1] at e4; cases e4
      subst e3
      exact ⟨.refl _, Rep.mono mu1 s2 _ _ q3⟩
    · rename_i xs
      unfold Rep at q
      obtain ⟨a, vs, rfl, q1, q2⟩ := q
      have hs : ∀ {H2 : Hp} {m2 : Ms}, Stp H1 m1 H2 m2 → SqL X.K H2 a vs := fun {H2 m2} s2 => by
        rcases q1 with ⟨o, q1⟩ | q1
        · exact .inl (.inr ⟨o, s2.keep _ _ q1 fun z => by obtain ⟨w, e⟩ := mu1 _ z; rw [q1] at e; cases e⟩)
        · exact .inr q1
      refine ⟨a, rfl, .inl ⟨⟨vs, q1.sq⟩, fin xs hc1 p _ H1 m1 x1 fun H2 m2 mo s2 i => ⟨fun d e => ?_, fun hl => ⟨vs, hs s2, by rw [← q2.length]; exact hl⟩⟩⟩⟩
      obtain ⟨w, e1, q3⟩ := q2.get e
      have hq := hs s2
      refine ⟨⟨vs, w, hq, e1⟩, fun x H3 ⟨e3, y⟩ => ?_⟩
      have e4 := y vs hq
      rw [e1] at e4; cases e4
      subst e3
      exact ⟨.refl _, Rep.mono mu1 s2 _ _ q3⟩⟩⟩

/-! ### a def by its name -/
def FnAt (P : Program) (w : World) (K : PySem.W.Frag) (mg : Str → Option Value) (base : Heap) (k : Nat) (x : Str) (ps : List Str) (sp : Spc) : Prop :=
  ∃ (f : Addr) (fd : FuncData), FnG P w K mg base CX0 k f fd ps (toSp K mg sp) ∧ mg x = some (.ref f) ∧ PySem.W.keepIn K (.ref f) = true ∧ Binds K fd ps [] ∧ ∃ (oc : Value) (od : Option Addr) (osl : Array (Option Value)), K.lookup f = some ⟨oc, od, .func fd, osl⟩
theorem FnAt.mono {P : Program} {w : World} {K : PySem.W.Frag} {mg : Str → Option Value} {base : Heap} {j k : Nat} {x : Str} {ps : List Str} {sp : Spc} (h : FnAt P w K mg base j x ps sp) (l : j ≤ k) : FnAt P w K mg base k x ps sp := by
  obtain ⟨f, fd, a, b, c, d⟩ := h
  exact ⟨f, fd, a.mono l, b, c, d⟩
theorem ce_f {x : Str} {p : Pos} {k l : Nat} {ps : List Str} {sp : Spc} {c : CAx} (F : FnAt X.prog X.w X.K X.mg X.base k x ps sp) (hr : RG l X.A) (ha : CA X W (e :: es) c) (hl : k ≤ l := by decide)
    (hg : Gl X x := by rfl) (hdb : (x == ("__debug__" : Str)) = false := by decide) (he : starEach (e :: es) X.env = (false, eval e X.env) :: starEach es X.env := by rfl) (hpl : (backTo pos (starEach es X.env)).any (·.1) = false := by rfl) : CE X W (.Call (.Name x p) (e :: es) [] pos) (cCall sp c) := by
  obtain ⟨f, fd, F, hm, hk, hb, _⟩ := F
  exact ce_call F (hr.mono hl) hm hk hb ha hg hdb he hpl
end
/-- where a def of the text stands -/
def DefAt (K : PySem.W.Frag) (mg : Str → Option Value) (x : Str) (st : Stmt) : Prop := ∃ (f : Addr) (fd : FuncData), FunD K x x (defArgs st) (defBody st) (defScope st) [] [] f fd ∧ mg x = some (.ref f)
theorem fn_at {P : Program} {w : World} {K : PySem.W.Frag} {mg : Str → Option Value} {base : Heap} {x : Str} {st : Stmt} {N ps : List Str} {k : Nat} {sp : Spc} {c : CSx} (F : DefAt K mg x st) (S : FnScope N ps (defScope st))
    (hb : ∀ (f : Addr) (cdv : Value) (A : Around) (outer : List Env) (s : Shared) (H : Hp) (E : XK), RG k (A.deeper (envOfC x (defScope st) s.heap.objs.size f cdv)) → CSs (cxOf CX0 P w K mg base N x (defScope st) f cdv A outer s H E).nox W0 (defBody st) c)
    (hl : ∀ ds hc Q E, sp ds hc Q E → ds.length = ps.length) (hp : ∀ ds hc (Q : D → CH → Prop) E, sp ds hc Q E → c { nx := fun _ hc' => Q .non hc', rt := Q } (startC N ds) hc)
    (hbi : ∀ (kV doc pm : Value) (an : Option Addr) (cdv ct : Value) (us : List Value), us.length = ps.length → bindArgs (PySem.W.fnOf x x (defArgs st) (defBody st) (defScope st) .none kV doc pm an cdv ct) ⟨us, []⟩ = pure (ps.zip us)) : FnAt P w K mg base (k + 1) x ps sp := by
  obtain ⟨f, fd, F, hm⟩ := F
  refine ⟨f, fd, fn_ok F S (hb f) hl hp, hm, F.kp, F.bindsN hbi, ?_⟩
  obtain ⟨oc, od, dV, kV, doc, pm, an, cdv, ct, osl, e, lk, _⟩ := F.ex
  exact ⟨oc, od, osl, lk⟩

/-! ### the law -/
def spLaw : Spc := fun ds _ Q _ => ∃ ns : List Int, ds = [.frz (ns.map D.int)] ∧ ns.length ≤ 63 ∧ ∀ hc', Q (.bl true) hc'
theorem repl_ints {K : PySem.W.Frag} {H : Hp} {m : Ms} : ∀ ns : List Int, RepL K H m (ns.map D.int) (ns.map V.int)
  | [] => RepL.nil
  | n :: ns => RepL.cons rep_int (repl_ints ns)
theorem law_in {K : PySem.W.Frag} {mg : Str → Option Value} {H : Hp} {a : Addr} {ns : List Int} {E : XK} (hl : ns.length ≤ 63) (hO : Only H) (hS : SqL K H a (ns.map V.int)) : toSp K mg spLaw [.ref a] H (fun v _ => v = .bl true) E := by
  refine ⟨fun _ => none, fun _ => False, [.frz (ns.map D.int)], fun d _ => d = .bl true, fun _ _ => False, ⟨fun _ z => z.elim, fun _ _ z => (nomatch z), fun _ _ z => (nomatch z)⟩, RepL.cons ?_ RepL.nil, ⟨ns, rfl, hl, fun _ => rfl⟩, fun d hc' e v H' m' x q => ?_, fun _ _ z => z.elim⟩
  · unfold Rep
    refine ⟨a, _, rfl, ?_, repl_ints ns⟩
    rcases hS with (h | ⟨o, h⟩) | h
    · rcases hO a with y | ⟨o, xs, y⟩ <;> (rw [h] at y; cases y)
    · exact .inl ⟨o, h⟩
    · exact .inr h
  · subst e
    unfold Rep at q
    exact q
end Mn

namespace Mn
open PySem PySem.Spec PyProof.Rows L2
/-! ### constants of the module -/
def GlobC (K : PySem.W.Frag) (mg : Str → Option Value) (x : Str) (d : D) : Prop := ∃ u v, mg x = some u ∧ RelV v u ∧ ∀ H m, Rep K H m d v
theorem GlobC.int {K : PySem.W.Frag} {mg : Str → Option Value} {x : Str} {i : Int} (h : ∃ t, mg x = some (.int i t)) : GlobC K mg x (.int i) := by
  obtain ⟨t, h⟩ := h
  exact ⟨_, .int i, h, ⟨t, rfl⟩, fun _ _ => rep_int⟩
theorem GlobC.str {K : PySem.W.Frag} {mg : Str → Option Value} {x : Str} {i : Str} (h : ∃ t, mg x = some (.str i t)) : GlobC K mg x (.str i) := by
  obtain ⟨t, h⟩ := h
  exact ⟨_, .str i, h, ⟨t, rfl⟩, fun _ _ => rep_str⟩
theorem ce_gc {X : Cx} {W : WX} {x : Str} {d : D} {pos : Pos} (h : GlobC X.K X.mg x d) (hg : Gl X x := by rfl) (hd : (x == ("__debug__" : Str)) = false := by decide) : CE X W (.Name x pos) (cC d) := by
  obtain ⟨u, v, hm, r, hr⟩ := h
  exact ce_g hg hm r hr hd
/-- the end of a law -/
theorem law_fin {P : Program} {w : World} {K : PySem.W.Frag} {mg : Str → Option Value} {h : Heap} {fa : Addr} {k : Nat} {x : Str} {st : Stmt} (KX : K.In h) (T : DefAt K mg "law" st) (hmg : mg "law" = some (.ref fa))
    (hbi : ∀ (kV doc pm : Value) (an : Option Addr) (cdv ct : Value) (us : List Value), us.length = ([x] : List Str).length → bindArgs (PySem.W.fnOf "law" "law" (defArgs st) (defBody st) (defScope st) .none kV doc pm an cdv ct) ⟨us, []⟩ = pure (([x] : List Str).zip us))
    (A : ∀ base : Heap, FnAt P w K mg base k "law" [x] spLaw) :
    ∃ (K : PySem.W.Frag) (fd : FuncData) (sp : Sp), K.In h ∧ (∀ (s : Shared) (u : Value), BindsTo s fd ⟨[u], []⟩ [(x, u)]) ∧
        (∀ (H : Hp) (a : Addr) (ns : List Int), ns.length ≤ 63 → Only H → SqL K H a (ns.map V.int) → sp [.ref a] H (fun v _ => v = .bl true) fun _ _ _ => False) ∧
        ∀ base : Heap, K.In base → base.Ns mainGlobals mg → FnG P w K mg base CX0 k fa fd [x] sp := by
  obtain ⟨f, fd, F, hf⟩ := T
  have e : f = fa := by
    rw [hmg] at hf; cases hf; rfl
  subst e
  refine ⟨K, fd, toSp K mg spLaw, KX, fun s u => F.bindsA hbi s [u] rfl, fun H a ns hl hO hS => law_in hl hO hS, fun base _ _ => ?_⟩
  obtain ⟨f', fd', G, hf', _, _, oc, od, osl, lk⟩ := A base
  have e : f' = f := by
    rw [hmg] at hf'; cases hf'; rfl
  subst e
  obtain ⟨oc2, od2, dV, kV, doc, pm, an, cdv, ct, osl2, e2, lk2, _⟩ := F.ex
  rw [lk] at lk2
  cases lk2
  exact G
/-! ### helps for readings -/
/-- one statement by itself: what follows is a letter -/
theorem seq_step {c1 c2 : CSx} {C : CEnds} {sc : List Sl} {hc : CH} (h : ∀ N : List Sl → CH → Prop, (∀ sc' hc', c2 C sc' hc' → N sc' hc') → c1 { nx := N, rt := C.rt, bk := C.bk, ct := C.ct, xp := C.xp } sc hc) : cSeq c1 c2 C sc hc :=
  h (fun sc' hc' => c2 C sc' hc') fun _ _ z => z
section
variable {ca cb cc : CEx} {t u : CTx} {c : CAx} {cl ch : COx} {f : O2} {f1 : O1} {fn : On} {g : CGx} {gs : CGsx} {s1 s2 : CSx} {ci : CIx} {E : XP} {sc : List Sl} {hc : CH} {C : CEnds} {i j l : Nat} {d : D} {ds : List D} {P : D → CH → Prop} {PT : Bool → CH → Prop} {PA : List D → CH → Prop} {PS : List Sl → CH → Prop} {PO : Option Int → CH → Prop} {sp : Spc}
theorem e_V : cV i E sc hc P = (match look sc i with | some d => P d hc | none => False) := rfl
theorem e_C : cC d E sc hc P = P d hc := rfl
theorem e_O : cO i E sc hc P = (match lookO sc i with | some ds => P (.lst ds) hc | none => False) := rfl
theorem e_Op : cOp f ca cb E sc hc P = ca E sc hc fun x hc1 => cb E sc hc1 fun y hc2 => f x y hc2 fun d => P d hc2 := rfl
theorem e_Un : cUn f1 ca E sc hc P = ca E sc hc fun x hc1 => f1 x hc1 fun d => P d hc1 := rfl
theorem e_Fn : cFn fn c E sc hc P = c E sc hc fun ds hc1 => fn ds hc1 fun d => P d hc1 := rfl
theorem e_Call : cCall sp c E sc hc P = c E sc hc fun ds hc1 => sp ds hc1 P fun _ _ => False := rfl
theorem e_Nil : cNil E sc hc PA = PA [] hc := rfl
theorem e_Cons : cCons ca c E sc hc PA = ca E sc hc fun d hc1 => c E sc hc1 fun ds hc2 => PA (d :: ds) hc2 := rfl
theorem e_Tup : cTup c E sc hc P = c E sc hc fun ds hc1 => ds.length ≤ sizeLine ∧ P (.tup ds) hc1 := rfl
theorem e_Lst : cLst c E sc hc P = c E sc hc fun ds hc1 => ds.length ≤ sizeLine ∧ P (.lst ds) hc1 := rfl
theorem e_NoP : cNoP E sc hc PO = PO none hc := rfl
theorem e_SoP : cSoP ca E sc hc PO = ca E sc hc fun d hc1 => match d with | .int i => PO (some i) hc1 | _ => False := rfl
theorem e_Sl : cSl ca cl ch E sc hc P = ca E sc hc fun x hc1 => cl E sc hc1 fun l hc2 => ch E sc hc2 fun u hc3 => slD x l u hc3 fun d => P d hc3 := rfl
theorem e_T : cT ca E sc hc PT = ca E sc hc fun d hc' => match d with | .bl b => PT b hc' | _ => False := rfl
theorem e_And : cAnd t u E sc hc PT = t E sc hc fun b hc1 => if b = true then u E sc hc1 PT else PT false hc1 := rfl
theorem e_Or : cOr t u E sc hc PT = t E sc hc fun b hc1 => if b = true then PT true hc1 else u E sc hc1 PT := rfl
theorem e_Not : cNot t E sc hc PT = t E sc hc fun b hc1 => PT (!b) hc1 := rfl
theorem e_If : cIf t ca cb E sc hc P = t E sc hc fun b hc1 => if b = true then ca E sc hc1 P else cb E sc hc1 P := rfl
theorem e_gN : gN i E d sc hc PS = PS (sc.set i (.val d)) hc := rfl
theorem e_Asg : cAsg ca g C sc hc = ca C.xp sc hc fun d hc1 => g C.xp d sc hc1 C.nx := rfl
theorem e_Ret : cRet ca C sc hc = ca C.xp sc hc C.rt := rfl
theorem e_RetN : cRetN C sc hc = C.rt .non hc := rfl
theorem e_Next : cNext C sc hc = C.nx sc hc := rfl
theorem e_IfS : cIfS t s1 s2 C sc hc = t C.xp sc hc fun b hc1 => if b = true then s1 C sc hc1 else s2 C sc hc1 := rfl
theorem e_For : cFor ci g s1 C sc hc = ci C.xp sc hc fun ds hc1 => forW g s1 ds C sc hc1 := rfl
theorem e_It : cIt ca E sc hc PA = ca E sc hc fun d hc1 => match d with | .lst xs => PA xs hc1 | .tup xs => PA xs hc1 | .frz xs => PA xs hc1 | _ => False := rfl
theorem e_R1 : cR1 c E sc hc PA = c E sc hc fun ds hc1 => match ds with | [.int hi] => PA (rngD 0 hi) hc1 | _ => False := rfl
theorem e_R2 : cR2 c E sc hc PA = c E sc hc fun ds hc1 => match ds with | [.int lo, .int hi] => PA (rngD lo hi) hc1 | _ => False := rfl
theorem e_Drop : cDrop ca C sc hc = ca C.xp sc hc fun _ hc1 => C.nx sc hc1 := rfl
theorem e_Par : cPar i j c C sc hc = c C.xp sc hc fun ds hc1 => match ds with | [x, y] => C.nx ((sc.set i (.val x)).set j (.val y)) hc1 | _ => False := rfl
theorem e_Par3 : cPar3 i j l c C sc hc = c C.xp sc hc fun ds hc1 => match ds with | [x, y, z] => C.nx (((sc.set i (.val x)).set j (.val y)).set l (.val z)) hc1 | _ => False := rfl
theorem e_App : cApp i ca C sc hc = (match lookO sc i with | some ds => ds.length < sizeLine ∧ ca C.xp sc hc fun d hc1 => C.nx (sc.set i (.own (ds ++ [d]))) hc1 | none => False) := rfl
theorem e_SetO : cSetO i c C sc hc = c C.xp sc hc fun ds hc1 => ds.length ≤ sizeLine ∧ C.nx (sc.set i (.own ds)) hc1 := rfl
theorem e_Give : cGive i s1 C sc hc = (match lookO sc i with | some ds => s1 C (sc.set i (.val (.lst ds))) hc | none => False) := rfl
theorem look_0 {r : List Sl} : look (.val d :: r) 0 = some d := rfl
theorem look_s {x : Sl} {r : List Sl} {n : Nat} : look (x :: r) (n + 1) = look r n := by cases x <;> rfl
theorem lookO_0 {r : List Sl} : lookO (.own ds :: r) 0 = some ds := rfl
theorem lookO_s {x : Sl} {r : List Sl} {n : Nat} : lookO (x :: r) (n + 1) = lookO r n := by cases x <;> rfl
end
theorem ixN_nat {n j : Nat} {i : Int} (hi : i = (j : Int)) (h : j < n) : ixN n i = some j := by
  unfold ixN
  rw [if_pos (by omega), if_pos (by omega)]
  rw [show i.toNat = j by omega]
theorem atI_nat' {xs : List D} {i : Int} {j : Nat} {d : D} (hi : i = (j : Int)) (h : xs[j]? = some d) : atI xs i = some d := by
  have lt : j < xs.length := by
    by_cases l : j < xs.length
    · exact l
    · rw [List.getElem?_eq_none (by omega)] at h; cases h
  unfold atI
  rw [ixN_nat hi lt]
  exact h
theorem atD_nat {xs : List D} {i : Int} {j : Nat} {d : D} {P : D → Prop} (hi : i = (j : Int)) (h : xs[j]? = some d) (q : P d) : oth (atI xs i) P := oth_some (atI_nat' hi h) q
/-- an index that lies in it: all that may stand there -/
theorem atD_all {xs : List D} {i : Int} {P : D → Prop} (h0 : 0 ≤ i) (h1 : i < xs.length) (q : ∀ j : Nat, ∀ d, i = (j : Int) → xs[j]? = some d → P d) : oth (atI xs i) P :=
  have lt : i.toNat < xs.length := by omega
  atD_nat (j := i.toNat) (by omega) (List.getElem?_eq_getElem lt) (q _ _ (by omega) (List.getElem?_eq_getElem lt))
theorem set_nat {ds : List D} {k : Int} (h0 : 0 ≤ k) (h1 : k < ds.length) : ixN ds.length k = some k.toNat := by
  unfold ixN
  rw [if_pos h0, if_pos h1]
theorem updc_same {hc : CH} {p : Addr} {ds : List D} : updc hc p ds p = some ds := by unfold updc; rw [if_pos rfl]
theorem updc_ne {hc : CH} {p q : Addr} {ds : List D} (h : q ≠ p) : updc hc p ds q = hc q := by unfold updc; rw [if_neg h]
/-- a loop by an invariant: a turn goes on with whatever follows from the invariant behind it -/
theorem forW_inv {g : CGx} {c : CSx} (I : Nat → List Sl → CH → Prop) : ∀ (ds : List D) (i : Nat) {C : CEnds} {sc : List Sl} {hc : CH}, I i sc hc →
    (∀ (j : Nat) (d : D) sc hc (Nx : List Sl → CH → Prop), ds[j]? = some d → I (i + j) sc hc → (∀ sc' hc', I (i + j + 1) sc' hc' → Nx sc' hc') → g C.xp d sc hc fun sc1 hc1 => c { nx := Nx, ct := Nx, bk := C.nx, rt := C.rt, xp := C.xp } sc1 hc1) →
    (∀ sc hc, I (i + ds.length) sc hc → C.nx sc hc) → forW g c ds C sc hc
  | [], i, C, sc, hc, h, _, q => q sc hc h
  | d :: ds, i, C, sc, hc, h, t, q => by
    refine t 0 d sc hc (fun s h => forW g c ds C s h) rfl h fun sc' hc' k => ?_
    refine forW_inv I ds (i + 1) k (fun j d' s3 h3 Nx e k3 nx => ?_) fun s3 h3 k3 => q s3 h3 (by rw [List.length_cons, show i + (ds.length + 1) = i + 1 + ds.length by omega]; exact k3)
    refine t (j + 1) d' s3 h3 Nx e (by rw [show i + (j + 1) = i + 1 + j by omega]; exact k3) fun sc4 hc4 k4 => nx sc4 hc4 ?_
    rw [show i + 1 + j + 1 = i + (j + 1) + 1 by omega]
    exact k4
theorem for_inv {g : CGx} {c : CSx} (I : Nat → List Sl → CH → Prop) {ds : List D} {C : CEnds} {sc : List Sl} {hc : CH} (h : I 0 sc hc)
    (t : ∀ (j : Nat) (d : D) sc hc (Nx : List Sl → CH → Prop), ds[j]? = some d → I j sc hc → (∀ sc' hc', I (j + 1) sc' hc' → Nx sc' hc') → g C.xp d sc hc fun sc1 hc1 => c { nx := Nx, ct := Nx, bk := C.nx, rt := C.rt, xp := C.xp } sc1 hc1)
    (q : ∀ sc hc, I ds.length sc hc → C.nx sc hc) : forW g c ds C sc hc :=
  forW_inv I ds 0 h (fun j d sc hc Nx e k nx => t j d sc hc Nx e (by rw [Nat.zero_add] at k; exact k) fun s h z => nx s h (by rw [Nat.zero_add]; exact z)) fun sc hc k => q sc hc (by rw [Nat.zero_add] at k; exact k)
/-- a while by an invariant with a measure -/
theorem wh_inv {t : CTx} {c : CSx} {C : CEnds} (I : Nat → List Sl → CH → Prop)
    (st : ∀ m sc hc (Nx : List Sl → CH → Prop), I m sc hc → (∀ m' sc' hc', m' < m → I m' sc' hc' → Nx sc' hc') → t C.xp sc hc fun b hc1 => if b = true then c { nx := Nx, ct := Nx, bk := C.nx, rt := C.rt, xp := C.xp } sc hc1 else C.nx sc hc1) {m : Nat} {sc : List Sl} {hc : CH} (h : I m sc hc) : cWhile t c C sc hc := by
  have all : ∀ k m sc hc, m < k → I m sc hc → whN t c k C sc hc := by
    intro k
    induction k with
    | zero => intro m sc hc l; omega
    | succ k ih =>
      intro m sc hc l h
      exact st m sc hc (fun s h => whN t c k C s h) h fun m' sc' hc' l' h' => ih m' sc' hc' (by omega) h'
  exact ⟨m + 1, all (m + 1) m sc hc (Nat.lt_succ_self m) h⟩
/-- a comprehension by an invariant -/
theorem lcW_inv {g : CGx} {t : CTx} {ce : CEx} {own : List Nat} {sc : List Sl} (I : Nat → List D → CH → Prop) : ∀ (ds : List D) (i : Nat) {acc : List D} {hc : CH} {P : List D → CH → Prop}, I i acc hc →
    (∀ (j : Nat) (d : D) acc hc (Nx : List D → CH → Prop), ds[j]? = some d → I (i + j) acc hc → (∀ acc' hc', I (i + j + 1) acc' hc' → Nx acc' hc') → g (fun _ _ _ => False) d (wipeC sc own) hc fun sc1 hc1 => t (fun _ _ _ => False) sc1 hc1 fun b hc2 =>
      if b = true then ce (fun _ _ _ => False) sc1 hc2 fun y hc3 => Nx (acc ++ [y]) hc3 else Nx acc hc2) →
    (∀ acc hc, I (i + ds.length) acc hc → P acc hc) → lcW g t ce own sc ds acc hc P
  | [], i, acc, hc, P, h, _, q => q acc hc h
  | d :: ds, i, acc, hc, P, h, tn, q => by
    refine tn 0 d acc hc (fun a h => lcW g t ce own sc ds a h P) rfl h fun acc' hc' k => ?_
    refine lcW_inv I ds (i + 1) k (fun j d' s3 h3 Nx e k3 nx => ?_) fun s3 h3 k3 => q s3 h3 (by rw [List.length_cons, show i + (ds.length + 1) = i + 1 + ds.length by omega]; exact k3)
    refine tn (j + 1) d' s3 h3 Nx e (by rw [show i + (j + 1) = i + 1 + j by omega]; exact k3) fun sc4 hc4 k4 => nx sc4 hc4 ?_
    rw [show i + 1 + j + 1 = i + (j + 1) + 1 by omega]
    exact k4
/-- a comprehension over one name, without a test, that is a map -/
theorem lc_map {i : Nat} {ce : CEx} {own : List Nat} {sc : List Sl} {hc : CH} (f : D → D) {ds : List D} {P : List D → CH → Prop}
    (st : ∀ d ∈ ds, ∀ Nx : D → CH → Prop, Nx (f d) hc → ce (fun _ _ _ => False) ((wipeC sc own).set i (.val d)) hc Nx) (q : P (ds.map f) hc) : lcW (gN i) cYes ce own sc ds [] hc P := by
  refine lcW_inv (fun j acc h => h = hc ∧ acc = (ds.take j).map f) ds 0 ⟨rfl, by simp⟩ (fun j d acc h Nx e ⟨k1, k2⟩ nx => ?_) fun acc h ⟨k1, k2⟩ => ?_
  · subst k1
    rw [Nat.zero_add] at k2 nx
    show (if true = true then ce (fun _ _ _ => False) ((wipeC sc own).set i (.val d)) h (fun y h3 => Nx (acc ++ [y]) h3) else Nx acc h)
    rw [if_pos rfl]
    refine st d (List.mem_of_getElem? e) (fun y h3 => Nx (acc ++ [y]) h3) (nx _ _ ⟨rfl, ?_⟩)
    rw [k2, List.take_add_one, e, List.map_append]
    rfl
  · rw [Nat.zero_add, List.take_length] at k2
    rw [k1, k2]
    exact q
end Mn

namespace Mn
open PySem PySem.Spec PyProof.Rows L2
/-! ### == of flat data -/
def okD : Nat → D → Bool
  | _, .non => true
  | _, .int _ => true
  | _, .str s => PyData.canLay0 (.str s)
  | n + 1, .tup xs => xs.all (okD n)
  | n + 1, .lst xs => xs.all (okD n)
  | _, _ => false
theorem okD_bl {m : Nat} {b : Bool} : okD m (.bl b) = false := by cases m <;> rfl
theorem okD_ref {m : Nat} {b : Addr} : okD m (.ref b) = false := by cases m <;> rfl
theorem okD_frz {m : Nat} {b : List D} : okD m (.frz b) = false := by cases m <;> rfl
theorem okD_dct {m : Nat} {b c} : okD m (.dct b c) = false := by cases m <;> rfl
theorem okD_non {m : Nat} : okD m .non = true := by cases m <;> rfl
theorem okD_int {m : Nat} {i : Int} : okD m (.int i) = true := by cases m <;> rfl
theorem okD_str {m : Nat} {s : Str} : okD m (.str s) = PyData.canLay0 (.str s) := by cases m <;> rfl
def OkPy (n : Nat) (d : D) : Prop := ∃ p, toPy d = some p ∧ p.canLay0 = true ∧ p.depth ≤ n ∧ ∀ e m q, okD m e = true → toPy e = some q → (PyData.eqv p q = true ↔ d = e)
def OkPyL (n : Nat) (ds : List D) : Prop := ∃ ps, toPyL ds = some ps ∧ PyData.canLayAll0 ps = true ∧ PyData.depthAll ps ≤ n ∧ ∀ es m qs, es.all (okD m) = true → toPyL es = some qs → (PyData.eqvAll ps qs = true ↔ ds = es)
theorem okPyL {n : Nat} (ih : ∀ d, okD n d = true → OkPy n d) : ∀ ds : List D, ds.all (okD n) = true → OkPyL n ds
  | [], _ => ⟨[], rfl, rfl, Nat.zero_le _, fun es m qs h e => by
    cases es with
    | nil => unfold toPyL at e; cases e; exact ⟨fun _ => rfl, fun _ => rfl⟩
    | cons d es =>
      unfold toPyL at e
      split at e
      · cases e; exact ⟨fun z => by simp [PyData.eqvAll] at z, fun z => by cases z⟩
      · cases e⟩
  | d :: ds, h => by
    rw [List.all_cons, Bool.and_eq_true] at h
    obtain ⟨p, e1, c1, l1, k1⟩ := ih d h.1
    obtain ⟨ps, e2, c2, l2, k2⟩ := okPyL ih ds h.2
    refine ⟨p :: ps, by unfold toPyL; rw [e1, e2], by simp [PyData.canLayAll0, c1, c2], by simp [PyData.depthAll]; omega, fun es m qs h' e => ?_⟩
    cases es with
    | nil => unfold toPyL at e; cases e; exact ⟨fun z => by simp [PyData.eqvAll] at z, fun z => by cases z⟩
    | cons d' es =>
      unfold toPyL at e
      rw [List.all_cons, Bool.and_eq_true] at h'
      split at e
      · next q qs' f1 f2 =>
        cases e
        simp only [PyData.eqvAll, Bool.and_eq_true]
        rw [k1 _ m _ h'.1 f1, k2 _ m _ h'.2 f2]
        exact ⟨fun ⟨a, b⟩ => by rw [a, b], fun z => by cases z; exact ⟨rfl, rfl⟩⟩
      · cases e
theorem eqv_no {p q : PyData} (h : PyData.eqv p q = false) {d e : D} (n : d ≠ e) : PyData.eqv p q = true ↔ d = e := by
  rw [h]; exact ⟨fun z => (by cases z), fun z => absurd z n⟩
theorem okPy : ∀ (n : Nat) (d : D), okD n d = true → OkPy n d
  | n, .non, _ => ⟨.none, by unfold toPy; rfl, rfl, by simp [PyData.depth], fun e m q h t => by
    cases e <;> unfold toPy at t <;> (try simp only [okD_bl, okD_ref, okD_frz, okD_dct, Bool.false_eq_true] at h) <;> try (cases t) <;> try exact eqv_no rfl (fun z => nomatch z)
    · exact ⟨fun _ => rfl, fun _ => rfl⟩
    all_goals (first | (obtain ⟨_, _, rfl⟩ := Option.map_eq_some_iff.mp t; exact eqv_no (by simp [PyData.eqv]) (fun z => nomatch z)))⟩
  | n, .int i, _ => ⟨.int i, by unfold toPy; rfl, rfl, by simp [PyData.depth], fun e m q h t => by
    cases e <;> unfold toPy at t <;> (try simp only [okD_bl, okD_ref, okD_frz, okD_dct, Bool.false_eq_true] at h) <;> try (cases t) <;> try exact eqv_no rfl (fun z => nomatch z)
    · simp [PyData.eqv]
    all_goals (first | (obtain ⟨_, _, rfl⟩ := Option.map_eq_some_iff.mp t; exact eqv_no (by simp [PyData.eqv]) (fun z => nomatch z)))⟩
  | n, .str i, g => ⟨.str i, by unfold toPy; rfl, by cases n <;> exact g, by simp [PyData.depth], fun e m q h t => by
    cases e <;> unfold toPy at t <;> (try simp only [okD_bl, okD_ref, okD_frz, okD_dct, Bool.false_eq_true] at h) <;> try (cases t) <;> try exact eqv_no rfl (fun z => nomatch z)
    · simp [PyData.eqv]
    all_goals (first | (obtain ⟨_, _, rfl⟩ := Option.map_eq_some_iff.mp t; exact eqv_no (by simp [PyData.eqv]) (fun z => nomatch z)))⟩
  | n + 1, .tup xs, g => by
    obtain ⟨ps, e1, c1, l1, k1⟩ := okPyL (okPy n) xs g
    refine ⟨.tuple ps, by unfold toPy; rw [e1]; rfl, c1, by simp [PyData.depth]; omega, fun e m q h t => ?_⟩
    cases e <;> unfold toPy at t <;> (try simp only [okD_bl, okD_ref, okD_frz, okD_dct, Bool.false_eq_true] at h) <;> try (cases t) <;> try exact eqv_no (by simp [PyData.eqv]) (fun z => nomatch z)
    · next ys =>
      obtain ⟨qs, e2, rfl⟩ := Option.map_eq_some_iff.mp t
      cases m with
      | zero => simp [okD] at h
      | succ m =>
        simp only [PyData.eqv]
        rw [k1 ys m qs (by simpa [okD] using h) e2]
        exact ⟨fun z => by rw [z], fun z => by cases z; rfl⟩
    · obtain ⟨_, _, rfl⟩ := Option.map_eq_some_iff.mp t; exact eqv_no (by simp [PyData.eqv]) (fun z => nomatch z)
  | n + 1, .lst xs, g => by
    obtain ⟨ps, e1, c1, l1, k1⟩ := okPyL (okPy n) xs g
    refine ⟨.list ps, by unfold toPy; rw [e1]; rfl, c1, by simp [PyData.depth]; omega, fun e m q h t => ?_⟩
    cases e <;> unfold toPy at t <;> (try simp only [okD_bl, okD_ref, okD_frz, okD_dct, Bool.false_eq_true] at h) <;> try (cases t) <;> try exact eqv_no (by simp [PyData.eqv]) (fun z => nomatch z)
    · obtain ⟨_, _, rfl⟩ := Option.map_eq_some_iff.mp t; exact eqv_no (by simp [PyData.eqv]) (fun z => nomatch z)
    · next ys =>
      obtain ⟨qs, e2, rfl⟩ := Option.map_eq_some_iff.mp t
      cases m with
      | zero => simp [okD] at h
      | succ m =>
        simp only [PyData.eqv]
        rw [k1 ys m qs (by simpa [okD] using h) e2]
        exact ⟨fun z => by rw [z], fun z => by cases z; rfl⟩
  | 0, .tup xs, g => by simp [okD] at g
  | 0, .lst xs, g => by simp [okD] at g
  | n, .bl _, g => by rw [okD_bl] at g; cases g
  | n, .ref _, g => by rw [okD_ref] at g; cases g
  | n, .frz _, g => by rw [okD_frz] at g; cases g
  | n, .dct _ _, g => by rw [okD_dct] at g; cases g
theorem shaped_ok {p : PyData} {n : Nat} (c : p.canLay0 = true) (l : p.depth ≤ n) (h : n ≤ 64) : SeqAt.shaped p = true := by
  unfold SeqAt.shaped
  rw [c, decide_eq_true (by omega)]
  rfl
theorem eqG_ok {neg : Bool} {n m : Nat} {x y : D} {P : D → Prop} (hx : okD n x = true) (hy : okD m y = true) (h1 : x = y → P (.bl (!neg))) (h2 : x ≠ y → P (.bl neg)) (hn : n ≤ 64 := by decide) (hm : m ≤ 64 := by decide) : eqG neg x y P := by
  obtain ⟨p, e1, c1, l1, k1⟩ := okPy n x hx
  obtain ⟨q, e2, c2, l2, _⟩ := okPy m y hy
  refine ⟨p, q, e1, e2, shaped_ok c1 l1 hn, shaped_ok c2 l2 hm, ?_⟩
  have k := k1 y m q hy e2
  cases z : PyData.eqv p q with
  | true =>
    have := h1 (k.mp z)
    cases neg <;> exact this
  | false =>
    have := h2 fun w => by rw [k.mpr w] at z; cases z
    cases neg <;> exact this
/-- == of flat data: equal as data -/
theorem eqD_ok {x y : D} {hc : CH} {P : D → Prop} (n m : Nat) (hx : okD n x = true) (hy : okD m y = true) (h1 : x = y → P (.bl true)) (h2 : x ≠ y → P (.bl false)) (hn : n ≤ 64 := by decide) (hm : m ≤ 64 := by decide) : eqD x y hc P := by
  unfold eqD
  split
  · next i j =>
    by_cases e : i = j
    · rw [decide_eq_true e]; exact h1 (by rw [e])
    · rw [decide_eq_false e]; exact h2 fun z => e (by cases z; rfl)
  · next i j =>
    by_cases e : i = j
    · rw [decide_eq_true e]; exact h1 (by rw [e])
    · rw [decide_eq_false e]; exact h2 fun z => e (by cases z; rfl)
  · exact h1 rfl
  · exact eqG_ok hx hy h1 h2 hn hm
theorem neD_ok {x y : D} {hc : CH} {P : D → Prop} (n m : Nat) (hx : okD n x = true) (hy : okD m y = true) (h1 : x = y → P (.bl false)) (h2 : x ≠ y → P (.bl true)) (hn : n ≤ 64 := by decide) (hm : m ≤ 64 := by decide) : neD x y hc P := by
  unfold neD
  split
  · next i j =>
    by_cases e : i = j
    · rw [decide_eq_true e]; exact h1 (by rw [e])
    · rw [decide_eq_false e]; exact h2 fun z => e (by cases z; rfl)
  · next i j =>
    by_cases e : i = j
    · rw [decide_eq_true e]; exact h1 (by rw [e])
    · rw [decide_eq_false e]; exact h2 fun z => e (by cases z; rfl)
  · exact h1 rfl
  · exact eqG_ok hx hy h1 h2 hn hm
/-- the end of most laws: both sides are the same flat data -/
theorem eqD_same {x : D} {hc : CH} {P : D → Prop} (n : Nat) (hx : okD n x = true) (h : P (.bl true)) (hn : n ≤ 64 := by decide) : eqD x x hc P := eqD_ok n n hx hx (fun _ => h) (fun z => absurd rfl z) hn hn
/-- a for loop: what it runs over is a letter -/
theorem for_step {ci : CIx} {g : CGx} {s : CSx} {C : CEnds} {sc : List Sl} {hc : CH}
    (h : ∀ R : List D → CH → Prop, (∀ (ds : List D) (hc1 : CH) (I : Nat → List Sl → CH → Prop), I 0 sc hc1 →
      (∀ (j : Nat) (d : D) sc hc (Nx : List Sl → CH → Prop), ds[j]? = some d → I j sc hc → (∀ sc' hc', I (j + 1) sc' hc' → Nx sc' hc') → g C.xp d sc hc fun sc1 hc1 => s { nx := Nx, ct := Nx, bk := C.nx, rt := C.rt, xp := C.xp } sc1 hc1) →
      (∀ sc hc, I ds.length sc hc → C.nx sc hc) → R ds hc1) → ci C.xp sc hc R) : cFor ci g s C sc hc :=
  h (fun ds hc1 => forW g s ds C sc hc1) fun _ _ I b t e => for_inv I b t e
theorem rng_at {hi : Int} {j : Nat} {d : D} (h : (rngD 0 hi)[j]? = some d) : d = .int j ∧ (j : Int) < hi := by
  unfold rngD at h
  rw [List.getElem?_map] at h
  cases e : (List.range (hi - 0).toNat)[j]? with
  | none => rw [e] at h; cases h
  | some x =>
    rw [e] at h
    obtain ⟨hj, hx⟩ := List.getElem?_eq_some_iff.mp e
    rw [List.length_range] at hj
    rw [List.getElem_range] at hx
    subst hx
    cases h
    exact ⟨by show D.int (0 + (j : Int)) = _; rw [Int.zero_add], by omega⟩
theorem rng_at2 {lo hi : Int} {j : Nat} {d : D} (h : (rngD lo hi)[j]? = some d) : d = .int (lo + j) ∧ lo + (j : Int) < hi := by
  unfold rngD at h
  rw [List.getElem?_map] at h
  cases e : (List.range (hi - lo).toNat)[j]? with
  | none => rw [e] at h; cases h
  | some x =>
    rw [e] at h
    obtain ⟨hj, hx⟩ := List.getElem?_eq_some_iff.mp e
    rw [List.length_range] at hj
    rw [List.getElem_range] at hx
    subst hx
    cases h
    exact ⟨rfl, by omega⟩
theorem rng_len {hi : Int} : (rngD 0 hi).length = hi.toNat := by
  unfold rngD
  rw [List.length_map, List.length_range, Int.sub_zero]
theorem rng_len2 {lo hi : Int} : (rngD lo hi).length = (hi - lo).toNat := by
  unfold rngD
  rw [List.length_map, List.length_range]
/-! ### what the rules say at data -/
section
variable {hc : CH} {P : D → Prop} {i j : Int} {a : Addr} {b : Bool} {xs ys : List D} {x y : Str} {C : Int → Int → Prop} {g : Int → Int → Int} {gb : Int → Int → Bool}
theorem o_addI : addD (.int i) (.int j) hc P = P (.int (i + j)) := rfl
theorem o_addS : addD (.str x) (.str y) hc P = (x.length + y.length ≤ sizeLine ∧ P (.str (x ++ y))) := rfl
theorem o_addL : addD (.lst xs) (.lst ys) hc P = (xs.length + ys.length ≤ sizeLine ∧ P (.lst (xs ++ ys))) := rfl
theorem o_addT : addD (.tup xs) (.tup ys) hc P = (xs.length + ys.length ≤ sizeLine ∧ P (.tup (xs ++ ys))) := rfl
theorem o_addR : addD (.ref a) (.lst ys) hc P = oth (hc a) fun xs => xs.length + ys.length ≤ sizeLine ∧ P (.lst (xs ++ ys)) := rfl
theorem o_addR' : addD (.lst xs) (.ref a) hc P = oth (hc a) fun ys => xs.length + ys.length ≤ sizeLine ∧ P (.lst (xs ++ ys)) := rfl
theorem o_sub : subD (.int i) (.int j) hc P = P (.int (i - j)) := rfl
theorem o_mul : mulD (.int i) (.int j) hc P = (MulOk i j ∧ P (.int (i * j))) := rfl
theorem o_mulL : mulD (.lst xs) (.int i) hc P = ((-(2 ^ 63) ≤ i ∧ i < 2 ^ 63 ∧ xs.length * i.toNat ≤ sizeLine) ∧ P (.lst (List.replicate i.toNat xs).flatten)) := rfl
theorem o_fdiv : fdivD (.int i) (.int j) hc P = (DivOk i j ∧ P (.int (i / j))) := rfl
theorem o_mod : modD (.int i) (.int j) hc P = (0 < j ∧ P (.int (i % j))) := rfl
theorem o_pow : powD (.int i) (.int j) hc P = (CPow i j ∧ P (.int (i ^ j.toNat))) := rfl
theorem o_shl : shlD (.int i) (.int j) hc P = (CShl i j ∧ P (.int (i * 2 ^ j.toNat))) := rfl
theorem o_shr : shrD (.int i) (.int j) hc P = (0 ≤ j ∧ P (.int (i / 2 ^ j.toNat))) := rfl
theorem o_and : andD (.int i) (.int j) hc P = P (.int (Builtin.bitAnd i j)) := rfl
theorem o_or : orD (.int i) (.int j) hc P = P (.int (Builtin.bitOr i j)) := rfl
theorem o_neg : negD (.int i) hc P = P (.int (-i)) := rfl
theorem o_eqI : eqD (.int i) (.int j) hc P = P (.bl (decide (i = j))) := rfl
theorem o_eqS : eqD (.str x) (.str y) hc P = P (.bl (decide (x = y))) := rfl
theorem o_neI : neD (.int i) (.int j) hc P = P (.bl (!decide (i = j))) := rfl
theorem o_neS : neD (.str x) (.str y) hc P = P (.bl (!decide (x = y))) := rfl
theorem o_lt : ltD (.int i) (.int j) hc P = P (.bl (decide (i < j))) := rfl
theorem o_le : leD (.int i) (.int j) hc P = P (.bl (decide (i ≤ j))) := rfl
theorem o_gt : gtD (.int i) (.int j) hc P = P (.bl (decide (j < i))) := rfl
theorem o_ge : geD (.int i) (.int j) hc P = P (.bl (decide (j ≤ i))) := rfl
theorem o_ixL : ixD (.lst xs) (.int i) hc P = oth (atI xs i) P := rfl
theorem o_ixT : ixD (.tup xs) (.int i) hc P = oth (atI xs i) P := rfl
theorem o_ixR : ixD (.ref a) (.int i) hc P = oth (hc a) fun xs => oth (atI xs i) P := rfl
theorem o_abs : absD [.int i] hc P = P (.int (if i < 0 then -i else i)) := rfl
theorem o_int : intFD [.int i] hc P = P (.int i) := rfl
theorem o_max : maxD2 [.int i, .int j] hc P = P (.int (if j > i then j else i)) := rfl
theorem o_min : minD2 [.int i, .int j] hc P = P (.int (if j < i then j else i)) := rfl
theorem o_lenL : lenD [.lst xs] hc P = P (.int xs.length) := rfl
theorem o_lenT : lenD [.tup xs] hc P = P (.int xs.length) := rfl
theorem o_lenF : lenD [.frz xs] hc P = P (.int xs.length) := rfl
theorem o_lenR : lenD [.ref a] hc P = oth (hc a) fun xs => P (.int xs.length) := rfl
theorem o_slL {lo hi : Option Int} : slD (.lst xs) lo hi hc P = P (.lst (cutX xs lo hi)) := rfl
theorem o_slT {lo hi : Option Int} : slD (.tup xs) lo hi hc P = P (.tup (cutX xs lo hi)) := rfl
theorem o_slF {lo hi : Option Int} : slD (.frz xs) lo hi hc P = P (.lst (cutX xs lo hi)) := rfl
theorem e_Ch {f g : O2} {ca cb cc : CEx} {E : XP} {sc : List Sl} {P : D → CH → Prop} : cCh f g ca cb cc E sc hc P = ca E sc hc fun x hc1 => cb E sc hc1 fun y hc2 => f x y hc2 fun d => match d with
  | .bl true => cc E sc hc2 fun z hc3 => g y z hc3 fun d => P d hc3
  | .bl false => P (.bl false) hc2
  | _ => False := rfl
theorem e_AndV {ca cb : CEx} {E : XP} {sc : List Sl} {P : D → CH → Prop} : cAndV ca cb E sc hc P = ca E sc hc fun d hc1 => match d with | .bl true => cb E sc hc1 P | .bl false => P (.bl false) hc1 | _ => False := rfl
theorem e_OrV {ca cb : CEx} {E : XP} {sc : List Sl} {P : D → CH → Prop} : cOrV ca cb E sc hc P = ca E sc hc fun d hc1 => match d with | .bl true => P (.bl true) hc1 | .bl false => cb E sc hc1 P | _ => False := rfl
theorem e_NotV {ca : CEx} {E : XP} {sc : List Sl} {P : D → CH → Prop} : cNotV ca E sc hc P = ca E sc hc fun d hc1 => match d with | .bl b => P (.bl (!b)) hc1 | _ => False := rfl
theorem at_0 {d : D} : oth (atI (d :: xs) 0) P = P d := by
  have : atI (d :: xs) 0 = some d := atI_nat' (j := 0) rfl rfl
  rw [this]
  exact propext ⟨fun h => by obtain ⟨_, e, h⟩ := oth_of h; cases e; exact h, fun h => oth_some rfl h⟩
theorem at_1 {d e : D} : oth (atI (d :: e :: xs) 1) P = P e := by
  have : atI (d :: e :: xs) 1 = some e := atI_nat' (j := 1) rfl rfl
  rw [this]
  exact propext ⟨fun h => by obtain ⟨_, e, h⟩ := oth_of h; cases e; exact h, fun h => oth_some rfl h⟩
theorem at_2 {d e f : D} : oth (atI (d :: e :: f :: xs) 2) P = P f := by
  have : atI (d :: e :: f :: xs) 2 = some f := atI_nat' (j := 2) rfl rfl
  rw [this]
  exact propext ⟨fun h => by obtain ⟨_, e, h⟩ := oth_of h; cases e; exact h, fun h => oth_some rfl h⟩
end
end Mn

namespace Mn
open PySem PySem.Spec PyProof.Rows L2
/-! ### what the statics and the table of modules are -/
def statK (K : PySem.W.Frag) : Bool := (match PySem.W.nsIn K cStatics "sys.int_max_str_digits" with | some none => true | _ => false) && (match K.lookup sysModules with | some ⟨_, _, .dict _ _, _⟩ => true | _ => false)
structure Stat (h : Heap) : Prop where
  lim : ∃ mc, h.Ns cStatics mc ∧ mc "sys.int_max_str_digits" = none
  mods : ∃ o es n, h.get? sysModules = some o ∧ o.data = .dict es n
theorem Stat.keeps {h h' : Heap} (x : Stat h) (k : ∀ b o, h.get? b = some o → h'.get? b = some o) : Stat h' := by
  obtain ⟨⟨mc, ⟨o, es, ep, e1, e2, e3⟩, z⟩, ⟨o2, es2, n, f1, f2⟩⟩ := x
  exact ⟨⟨mc, ⟨o, es, ep, k _ _ e1, e2, e3⟩, z⟩, ⟨o2, es2, n, k _ _ f1, f2⟩⟩
theorem ns_none {K : PySem.W.Frag} {h : Heap} {a : Addr} {m : Str → Option Value} {x : Str} (KX : K.In h) (N : h.Ns a m) (q : PySem.W.nsIn K a x = some none) : m x = none := by
  obtain ⟨ob, ents, pp, g1, g2, _, g3⟩ := N
  unfold PySem.W.nsIn at q
  split at q
  · rename_i cc dd ents2 nn sl kq
    have same := KX _ _ kq
    rw [g1] at same; cases same; cases g2
    split at q
    · cases q
    · rename_i fnd
      rw [← g3 x]
      unfold nsFind findBy
      rw [← Array.find?_toList, fnd]
      rfl
  · cases q
theorem stat_of {K : PySem.W.Frag} {h : Heap} (KX : K.In h) (NL : h.NoLimit) (c : statK K = true) : Stat h := by
  unfold statK at c
  rw [Bool.and_eq_true] at c
  obtain ⟨c1, c2⟩ := c
  constructor
  · obtain ⟨mc, N, _⟩ := NL
    refine ⟨mc, N, ns_none KX N ?_⟩
    revert c1
    cases PySem.W.nsIn K cStatics "sys.int_max_str_digits" with
    | none => intro c1; cases c1
    | some v => cases v with
      | none => intro _; rfl
      | some u => intro c1; cases c1
  · revert c2
    cases q : K.lookup sysModules with
    | none => intro c2; cases c2
    | some o =>
      obtain ⟨oc, od, dt, osl⟩ := o
      intro c2
      cases dt with
      | dict es n => exact ⟨_, es, n, KX _ _ q, rfl⟩
      | _ => cases c2
/-! ### the hook: the module's names, the statics, the table of modules -/
def obsS (fa : List He.Fa) (fn : List He.DefD) (K : PySem.W.Frag) : He.AlD × Bool := (He.obsD fa fn K, statK K)
def SaysS (fa : List He.Fa) (fn : List He.DefD) (K : PySem.W.Frag) : Prop := obsS fa fn K = (He.valD fn, true)
def obsSG (n : Nat) (fa : List He.Fa) (fn : List He.DefD) (g : Addr → Option Obj) : He.AlD × Bool := obsS fa fn (He.frG g (He.asD g n ++ [sysModules, cStatics]))
def hookS (n : Nat) (fa : List He.Fa) (fn : List He.DefD) : PySem.W.Hook where
  α := He.AlD × Bool
  obs := fun s => obsSG n fa fn s.heap.get?
  val := fun _ => (He.valD fn, true)
  says := fun _ h => ∃ K : PySem.W.Frag, K.In h ∧ SaysS fa fn K
  of := fun _ _ e => ⟨_, He.frG_in, e⟩
  keeps := fun _ _ _ ⟨K, hK, c⟩ k => ⟨K, PySem.W.Frag.In.keeps hK k, c⟩
theorem obsSG_eq {n : Nat} {fa : List He.Fa} {fn : List He.DefD} {g : Addr → Option Obj} {s : Shared} (h : ∀ a, g a = s.heap.get? a) : obsSG n fa fn g = (hookS n fa fn).obs s := by
  have e : g = s.heap.get? := funext h
  subst e
  rfl
theorem SaysS.d {fa : List He.Fa} {fn : List He.DefD} {K : PySem.W.Frag} (c : SaysS fa fn K) : He.SaysD fa fn K := congrArg (fun z : He.AlD × Bool => z.1) c
theorem SaysS.s {fa : List He.Fa} {fn : List He.DefD} {K : PySem.W.Frag} (c : SaysS fa fn K) : statK K = true := congrArg (fun z : He.AlD × Bool => z.2) c
/-! ### texts of great integers -/
def IntTxt (i : Int) : Bool := decide (i.natAbs < 2 ^ 12900)
theorem log_of {i : Int} (h : IntTxt i = true) : i.natAbs.log2 < 12900 := by
  have h := of_decide_eq_true h
  by_cases z : i.natAbs = 0
  · rw [z]; decide
  · exact (Nat.log2_lt z).mpr h
theorem digits_ok {M : Model} {A : Around} {E : Value → Shared → Prop} {s : Shared} {a : Int} {Q : Option Nat → Shared → Prop} (S : Stat s.heap) (h : IntTxt a = true) (k : Q none s) : wpAny M A (Builtin.overDigitLimit? a) Q E s := by
  have hl := log_of h
  unfold Builtin.overDigitLimit?
  by_cases sm : a.natAbs.log2 < 1920
  · rw [if_pos sm]; exact wpAny_pure k
  · rw [if_neg sm]
    obtain ⟨⟨mc, N, z⟩, _⟩ := S
    unfold Builtin.intMaxStrDigits
    refine wpAny_bind (wpAny_bind (wpAny_nsGet N ?_))
    rw [z]
    refine wpAny_pure ?_
    dsimp only
    rw [if_neg (by omega), if_pos (by simp; omega)]
    exact wpAny_pure k
theorem int_meets (a : Int) (t : Tok) (h : IntTxt a = true) : Meets (Builtin.«int.__repr__» ⟨[.int a t], []⟩) (fun _ R s => Stat s.heap ∧ R (.ok (.ret (.str (toString a) s.toks))) { s with toks := s.toks + 1 }) := fun prog w A R s ⟨S, hq⟩ => by
  have hlen : (Str.ofString (toString a)).length ≤ sizeLine := by
    rw [PySem.ofString_length, sizeLine_eq]
    have := int_text_length_le (k := 12900) (by decide) (log_of h)
    omega
  unfold Builtin.«int.__repr__»
  show wpAny _ _ (do let r ← Builtin.overDigitLimit? a; _) _ _ _
  refine wpAny_bind (digits_ok S h ?_)
  exact wpAny_bind (wpAny_mkStr (wpAny_pure hq) hlen)
section
variable {prog : Program} {w : World} {A : Around} {E : Value → Shared → Prop} {s : Shared}
theorem call_intrepr {a : Int} {t : Tok} {Q : Value → Shared → Prop} (S : Stat s.heap) (h : IntTxt a = true) (q : Q (.str (toString a) s.toks) { s with toks := s.toks + 1 }) : wpAny (model prog w) A (call (.builtin "int.__repr__") [.int a t]) Q E s :=
  call_meets F.slot_int_repr (typeIs_int s a t) F.entry_int_repr (F.args_int_repr_1 _) (int_meets a t h) ⟨S, q⟩
end
/-! ### texts of nested data -/
mutual
def bigP : PyData → Bool
  | .none | .bool _ | .str _ => true
  | .int i => IntTxt i
  | .list xs | .tuple xs => bigPs xs
  | .dict kvs => bigKv kvs
def bigPs : List PyData → Bool
  | [] => true
  | x :: xs => bigP x && bigPs xs
def bigKv : List (PyData × PyData) → Bool
  | [] => true
  | (k, v) :: r => bigP k && (bigP v && bigKv r)
end
theorem bigKv_split : ∀ l : List (PyData × PyData), bigKv l = true → bigPs (l.map Prod.fst) = true ∧ bigPs (l.map Prod.snd) = true
  | [], _ => ⟨rfl, rfl⟩
  | (a, b) :: r, h => by
    unfold bigKv at h
    rw [Bool.and_eq_true, Bool.and_eq_true] at h
    obtain ⟨g1, g2⟩ := bigKv_split r h.2.2
    exact ⟨by show (bigP a && bigPs _) = true; rw [h.1, g1]; rfl, by show (bigP b && bigPs _) = true; rw [h.2.1, g2]; rfl⟩
section
variable {prog : Program} {w : World} {hp : Heap}
theorem intK {i : Int} (t : Tok) (S : Stat hp) (h : IntTxt i = true) (n : Nat) : ReprK prog w [] hp n (.int i t) (toString i) := fun b hb A g E s Q hg _ hu hk hQ => by
  have small : b ≤ sizeLine := by omega
  rw [pyReprUnder_leaf (v := .int i t) small (fun _ e => nomatch e)]
  unfold pyRepr
  refine wpAny_bind (wpAny_pyReprObj_slot (by omega) (typeIs_int s i t) F.slot_int_repr.toG (call_intrepr (S.keeps hk) h ⟨_, _, rfl, ?_⟩))
  exact wpAny_pure (hQ s.heap _ fun _ _ e => e)
/-- what is read of the heap, and deep enough -/
abbrev Deep (hp : Heap) (d : PyData) (bs : List Addr) : Prop := ReadAtMost hp d.depth bs
mutual
theorem treeK (S : Stat hp) : ∀ {v : Value} {d : PyData} {as : List Addr}, Reads hp v d as → bigP d = true → sysModules ∉ as → d.shown.length ≤ sizeLine → ∃ bs, Deep hp d bs ∧ ReprK prog w bs hp d.depth v d.shown
  | _, _, _, .none, _, _, _ => ⟨[], (fun _ z => nomatch z), by rw [PyData.shown]; exact .of_is .none _ _ _⟩
  | _, _, _, .bool b, _, _, _ => ⟨[], (fun _ z => nomatch z), by rw [PyData.shown]; exact .of_is (.bool b) _ _ _⟩
  | _, _, _, .int i t, hb, _, _ => ⟨[], (fun _ z => nomatch z), by rw [PyData.shown]; unfold bigP at hb; exact intK t S hb _⟩
  | _, _, _, .str x t, _, _, hl => ⟨[], (fun _ z => nomatch z), by rw [PyData.shown] at hl ⊢; exact .of_is (.str x t hl) _ _ _⟩
  | _, _, _, .list (a := a) (vs := its) (xs := xs) g1 g2 g3 g4, hb, hn, hl => by
    rw [PyData.shown] at hl ⊢
    unfold bigP at hb
    obtain ⟨bs, db, kk⟩ := forestK S g4 hb (fun z => hn (List.mem_cons_of_mem _ z)) (fun t m => Nat.le_trans (listText_mem_le m) hl)
    have whole : Reads hp (.ref a) (.list xs) _ := .list g1 g2 g3 g4
    have deeper : PyData.depthAll xs < (PyData.list xs).depth := by rw [PyData.depth]; omega
    have na := not_mem_of_deeper whole deeper db
    refine ⟨a :: bs, ReadAtMost.cons whole (Nat.le_of_lt deeper) db, ?_⟩
    rw [PyData.depth]
    rcases its with ⟨vals⟩
    match vals, g3, g4, kk with
    | [], g3, g4, kk =>
      have nothing : ReadsAll hp [] xs _ := g4
      cases nothing
      rw [PyData.shownAll, listText_nil]
      exact .listEmpty g1 g2 g3
    | y :: ys, g3, g4, kk => exact .list g1 g2 g3 na (by simpa using kk.length_eq) fun j z e => kk.item j z (by simpa using e)
  | _, _, _, .tuple (a := a) (xs := xs) g1 g2 g3 g4, hb, hn, hl => by
    rw [PyData.shown] at hl ⊢
    unfold bigP at hb
    obtain ⟨bs, db, kk⟩ := forestK S g4 hb hn (fun t m => Nat.le_trans (tupleText_mem_le m) hl)
    have whole : Reads hp (.ref a) (.tuple xs) _ := .tuple g1 g2 g3 g4
    have deeper : PyData.depthAll xs < (PyData.tuple xs).depth := by rw [PyData.depth]; omega
    have na := not_mem_of_deeper whole deeper db
    refine ⟨a :: bs, ReadAtMost.cons whole (Nat.le_of_lt deeper) db, ?_⟩
    rw [PyData.depth]
    exact .tuple g1 g2 g3 na kk
  | _, _, _, .dict (a := a) (es := es) (kvs := l) (as := ka) (bs := va) g1 g2 g3 g4 g5, hb, hn, hl => by
    rw [PyData.shown] at hl ⊢
    unfold bigP at hb
    obtain ⟨hb1, hb2⟩ := bigKv_split l hb
    obtain ⟨bs1, db1, kk1⟩ := forestK S g4 hb1 (fun z => hn (List.mem_append_left _ (List.mem_cons_of_mem _ z))) fun t m => by
      obtain ⟨p, m2, le⟩ := PyData.shownKv_key_le l t m
      exact Nat.le_trans (Nat.le_trans le (dictText_mem_le m2)) hl
    obtain ⟨bs2, db2, kk2⟩ := forestK S g5 hb2 (fun z => hn (List.mem_append_right _ z)) fun t m => by
      obtain ⟨p, m2, le⟩ := PyData.shownKv_val_le l t m
      exact Nat.le_trans (Nat.le_trans le (dictText_mem_le m2)) hl
    have whole : Reads hp (.ref a) (.dict l) _ := .dict g1 g2 g3 g4 g5
    have both : ReadAtMost hp (PyData.depthKv l) (bs1 ++ bs2) := ReadAtMost.append (db1.mono (PyData.depthAll_keys_le l)) (db2.mono (PyData.depthAll_vals_le l))
    have deeper : PyData.depthKv l < (PyData.dict l).depth := by rw [PyData.depth]; omega
    have na := not_mem_of_deeper whole deeper both
    have other : (a == sysModules) = false := beq_eq_false_iff_ne.mpr fun z => hn (List.mem_append_left _ (by rw [z]; exact List.mem_cons_self ..))
    refine ⟨a :: (bs1 ++ bs2), ReadAtMost.cons whole (Nat.le_of_lt deeper) both, ?_⟩
    rw [PyData.depth, PyData.shownKv_eq]
    have r1 := kk1.more_le (as' := bs1 ++ bs2) (fun _ z => List.mem_append_left _ z) (PyData.depthAll_keys_le l)
    have r2 := kk2.more_le (as' := bs1 ++ bs2) (fun _ z => List.mem_append_right _ z) (PyData.depthAll_vals_le l)
    exact .dict g1 g2 g3 other na (.of_two es.toList _ _ r1 r2)
theorem forestK (S : Stat hp) : ∀ {vs : List Value} {ds : List PyData} {as : List Addr}, ReadsAll hp vs ds as → bigPs ds = true → sysModules ∉ as → (∀ t ∈ PyData.shownAll ds, t.length ≤ sizeLine) → ∃ bs, ReadAtMost hp (PyData.depthAll ds) bs ∧ ReprAllK prog w bs hp (PyData.depthAll ds) vs (PyData.shownAll ds)
  | _, _, _, .nil, _, _, _ => ⟨[], (fun _ z => nomatch z), by rw [PyData.shownAll]; exact .nil⟩
  | _, _, _, .cons (d := x) (ds := xs) g1 g2, hb, hn, hl => by
    unfold bigPs at hb
    rw [Bool.and_eq_true] at hb
    rw [PyData.shownAll] at hl ⊢
    rw [PyData.depthAll]
    obtain ⟨bs1, db1, kk1⟩ := treeK S g1 hb.1 (fun z => hn (List.mem_append_left _ z)) (hl _ (List.mem_cons_self ..))
    obtain ⟨bs2, db2, kk2⟩ := forestK S g2 hb.2 (fun z => hn (List.mem_append_right _ z)) fun t m => hl t (List.mem_cons_of_mem _ m)
    have m1 := Nat.le_max_left x.depth (PyData.depthAll xs)
    have m2 := Nat.le_max_right x.depth (PyData.depthAll xs)
    exact ⟨bs1 ++ bs2, (ReadAtMost.mono db1 m1).append (db2.mono m2), .cons ((kk1.more fun _ z => List.mem_append_left _ z).level_le m1) (kk2.more_le (fun _ z => List.mem_append_right _ z) m2)⟩
end
theorem repr_tree {A : Around} {E : Value → Shared → Prop} {s : Shared} {Q : Value → Shared → Prop} {a : Addr} {d : PyData} {as : List Addr} (S : Stat s.heap) (r : Reads s.heap (.ref a) d as) (hb : bigP d = true) (hn : sysModules ∉ as) (hg : A.guards = some []) (hu : A.units + (d.depth + 2) < cLine)
    (hl : d.shown.length ≤ sizeLine) (hQ : ∀ h' u tk, (∀ b o, s.heap.get? b = some o → h'.get? b = some o) → Q (.str d.shown u) { s with heap := h', toks := tk }) : wpAny (model prog w) A (call (.builtin "repr") [.ref a]) Q E s := by
  have under : A.in1.units + d.depth < cLine := by show A.units + 1 + d.depth < cLine; omega
  have g1 : A.in1.guards = some [] := hg
  cases r with
  | list g1' g2 g3 g4 =>
    rename_i o its n xs bs0
    unfold bigP at hb
    rw [PyData.shown] at hl hQ
    rw [PyData.depth] at under
    obtain ⟨bs, db, kk⟩ := forestK (prog := prog) (w := w) S g4 hb (fun z => hn (List.mem_cons_of_mem _ z)) (fun t m => Nat.le_trans (listText_mem_le m) hl)
    have na := not_mem_of_deeper (.list g1' g2 g3 g4) (by rw [PyData.depth]; omega) db
    refine call_repr_slot (T := "list") (idr := "list.__repr__") (by omega) ⟨o, g1', g2⟩ F.slot_list_repr.toG ?_
    rcases its with ⟨vals⟩
    match vals, g3, g4, kk with
    | [], g3, g4, kk =>
      have nothing : ReadsAll s.heap [] xs _ := g4
      cases nothing
      rw [PyData.shownAll, listText_nil] at hQ
      exact call_list_repr_empty ⟨o, g1', g2⟩ g1' g3 ⟨_, _, rfl, hQ s.heap _ _ fun _ _ e => e⟩
    | y :: ys, g3, g4, kk => exact call_list_reprK g1' g2 g3 na (by simpa using kk.length_eq) (fun j z e => kk.item j z (by simpa using e)) g1 (fun b _ => Clear.nil b) under (fun _ _ e => e) (fun h' u tk hk => ⟨_, _, rfl, hQ h' u tk hk⟩) hl
  | tuple g1' g2 g3 g4 =>
    rename_i o its n xs
    unfold bigP at hb
    rw [PyData.shown] at hl hQ
    rw [PyData.depth] at under
    obtain ⟨bs, db, kk⟩ := forestK (prog := prog) (w := w) S g4 hb hn (fun t m => Nat.le_trans (tupleText_mem_le m) hl)
    have na := not_mem_of_deeper (.tuple g1' g2 g3 g4) (by rw [PyData.depth]; omega) db
    refine call_repr_slot (T := "tuple") (idr := "tuple.__repr__") (by omega) ⟨o, g1', g2⟩ F.slot_tuple_repr ?_
    exact call_tuple_reprK g1' g2 g3 na kk g1 (fun b _ => Clear.nil b) under (fun _ _ e => e) (fun h' u tk hk => ⟨_, _, rfl, hQ h' u tk hk⟩) hl
  | dict g1' g2 g3 g4 g5 =>
    rename_i o es n l ka va
    unfold bigP at hb
    rw [PyData.shown] at hl hQ
    rw [PyData.depth] at under
    obtain ⟨hb1, hb2⟩ := bigKv_split l hb
    obtain ⟨bs1, db1, kk1⟩ := forestK (prog := prog) (w := w) S g4 hb1 (fun z => hn (List.mem_append_left _ (List.mem_cons_of_mem _ z))) fun t m => by
      obtain ⟨p, m2, le⟩ := PyData.shownKv_key_le l t m
      exact Nat.le_trans (Nat.le_trans le (dictText_mem_le m2)) hl
    obtain ⟨bs2, db2, kk2⟩ := forestK (prog := prog) (w := w) S g5 hb2 (fun z => hn (List.mem_append_right _ z)) fun t m => by
      obtain ⟨p, m2, le⟩ := PyData.shownKv_val_le l t m
      exact Nat.le_trans (Nat.le_trans le (dictText_mem_le m2)) hl
    have both : ReadAtMost s.heap (PyData.depthKv l) (bs1 ++ bs2) := ReadAtMost.append (db1.mono (PyData.depthAll_keys_le l)) (db2.mono (PyData.depthAll_vals_le l))
    have na := not_mem_of_deeper (.dict g1' g2 g3 g4 g5) (by rw [PyData.depth]; omega) both
    have other : (a == sysModules) = false := beq_eq_false_iff_ne.mpr fun z => hn (List.mem_append_left _ (by rw [z]; exact List.mem_cons_self ..))
    have r1 := kk1.more_le (as' := bs1 ++ bs2) (fun _ z => List.mem_append_left _ z) (PyData.depthAll_keys_le l)
    have r2 := kk2.more_le (as' := bs1 ++ bs2) (fun _ z => List.mem_append_right _ z) (PyData.depthAll_vals_le l)
    rw [PyData.shownKv_eq] at hl hQ
    refine call_repr_slot (T := "dict") (idr := "dict.__repr__") (by omega) ⟨o, g1', g2⟩ F.slot_dict_repr ?_
    exact call_dict_reprK g1' g2 g3 other na (.of_two es.toList _ _ r1 r2) g1 (fun b _ => Clear.nil b) under (fun _ _ e => e) (fun h' u tk hk => ⟨_, _, rfl, hQ h' u tk hk⟩) hl
end
/-! ### data with dicts -/
def keyPy : Key → PyData
  | .inl i => .int i
  | .inr x => .str x
mutual
def toPr : D → Option PyData
  | .non => some .none
  | .bl b => some (.bool b)
  | .int i => some (.int i)
  | .str s => some (.str s)
  | .tup xs => (toPrL xs).map .tuple
  | .lst xs => (toPrL xs).map .list
  | .ref _ => none
  | .dct ks xs => (toPrL xs).map fun ps => .dict ((ks.map keyPy).zip ps)
  | .frz _ => none
def toPrL : List D → Option (List PyData)
  | [] => some []
  | d :: ds => match toPr d, toPrL ds with
    | some p, some ps => some (p :: ps)
    | _, _ => none
end
theorem toPrL_len : ∀ {ds : List D} {ps : List PyData}, toPrL ds = some ps → ps.length = ds.length
  | [], ps, h => by unfold toPrL at h; cases h; rfl
  | d :: ds, ps, h => by
    unfold toPrL at h
    split at h
    · rename_i p qs e1 e2
      cases h
      rw [List.length_cons, List.length_cons, toPrL_len e2]
    · cases h
theorem map_fst_zip' {α β : Type} (l : List α) (r : List β) (h : l.length = r.length) : (l.zip r).map Prod.fst = l := List.map_fst_zip (by omega)
theorem map_snd_zip' {α β : Type} (l : List α) (r : List β) (h : l.length = r.length) : (l.zip r).map Prod.snd = r := List.map_snd_zip (by omega)
section
variable {X : Cx} {pins : List (Addr × Obj)} {σ : L2.St} {H : Hp} {s : Shared} {m : Ms}
theorem not_mods (S : Stat s.heap) {a : Addr} {o : Obj} {its : Array Value} {n : Nat} (h : s.heap.get? a = some o) (hd : o.data = .seq its n) : sysModules ≠ a := fun e => by
  obtain ⟨o2, es, n2, f1, f2⟩ := S.mods
  rw [← e] at h
  rw [h] at f1; cases f1
  rw [hd] at f2; cases f2
/-- the pairs of a dict, as they are read -/
theorem keys_read {P : Program} {w : World} {h : Heap} : ∀ {es : List DictEntry} {kvs : List (Key × Value)}, Pairs (mixKind P w) es kvs → ReadsAll h (es.map (·.key)) (kvs.map fun p => keyPy p.1) []
  | _, _, .nil => .nil
  | _, _, .cons (e := e) (kv := kv) h1 h2 h3 => by
    rcases keyIs_shape (show keyIs kv.1 e.key = true from h1) with ⟨i, t, e1, e2⟩ | ⟨x, t, e1, e2⟩
    · have r : Reads h e.key (keyPy kv.1) [] := by rw [e1, e2]; exact .int i t
      exact ReadsAll.cons (as := []) (bs := []) r (keys_read h3)
    · have r : Reads h e.key (keyPy kv.1) [] := by rw [e1, e2]; exact .str x t
      exact ReadsAll.cons (as := []) (bs := []) r (keys_read h3)
theorem vals_pairs {P : Program} {w : World} : ∀ {es : List DictEntry} {kvs : List (Key × Value)}, Pairs (mixKind P w) es kvs → es.map (·.val) = kvs.map (·.2)
  | _, _, .nil => rfl
  | _, _, .cons h1 h2 h3 => by rw [List.map_cons, List.map_cons, h2, vals_pairs h3]
theorem kv_parts : ∀ {ks : List Key} {vs : List V} {rs : List (Key × Value)}, ks.length = vs.length → KV (ks.zip vs) rs → rs.map (·.1) = ks ∧ Vals vs (rs.map (·.2))
  | [], [], _, _, h => by cases h; exact ⟨rfl, .nil⟩
  | k :: ks, v :: vs, _, l, h => by
    have h' : KV ((k, v) :: ks.zip vs) _ := h
    cases h' with
    | cons h1 h2 =>
      obtain ⟨a, b⟩ := kv_parts (by simpa using l) h2
      refine ⟨?_, .cons h1.2 b⟩
      rw [List.map_cons, a, ← h1.1]
mutual
theorem readsD (I : Inv X pins σ H s) (S : Stat s.heap) : ∀ (d : D) (v : V) (u : Value) (p : PyData), toPr d = some p → Rep X.K H m d v → RelV v u → ∃ as, Reads s.heap u p as ∧ sysModules ∉ as
  | .non, v, u, p, e, h, r => by unfold toPr at e; unfold Rep at h; cases e; subst h; cases r; exact ⟨_, .none, List.not_mem_nil⟩
  | .bl b, v, u, p, e, h, r => by unfold toPr at e; unfold Rep at h; cases e; subst h; cases r; exact ⟨_, .bool b, List.not_mem_nil⟩
  | .int i, v, u, p, e, h, r => by unfold toPr at e; unfold Rep at h; cases e; subst h; obtain ⟨t, rfl⟩ := r; exact ⟨_, .int i t, List.not_mem_nil⟩
  | .str x, v, u, p, e, h, r => by unfold toPr at e; unfold Rep at h; cases e; subst h; obtain ⟨t, rfl⟩ := r; exact ⟨_, .str x t, List.not_mem_nil⟩
  | .lst xs, v, u, p, e, h, r => by
    unfold toPr at e; unfold Rep at h
    obtain ⟨a, vs, rfl, _, q, rl⟩ := h
    cases r
    cases e2 : toPrL xs with
    | none => rw [e2] at e; cases e
    | some ps =>
      rw [e2] at e; cases e
      obtain ⟨its, rv, ⟨o, n, ho, hc, _, hd⟩, _⟩ := I.list (SqL.of (K := X.K) q)
      obtain ⟨as, hr, hn⟩ := readsDL I S xs vs its ps e2 rl rv
      refine ⟨_, .list ho hc hd hr, fun z => ?_⟩
      rcases List.mem_cons.mp z with z | z
      · exact not_mods S ho hd z
      · exact hn z
  | .tup xs, v, u, p, e, h, r => by
    unfold toPr at e; unfold Rep at h
    obtain ⟨a, vs, rfl, q, rl⟩ := h
    cases r
    cases e2 : toPrL xs with
    | none => rw [e2] at e; cases e
    | some ps =>
      rw [e2] at e; cases e
      obtain ⟨its, rv, ⟨o, ho, hc, n, hd⟩, _⟩ := I.tuple q
      obtain ⟨as, hr, hn⟩ := readsDL I S xs vs its ps e2 rl rv
      exact ⟨_, .tuple ho hc hd hr, hn⟩
  | .dct ks xs, v, u, p, e, h, r => by
    unfold toPr at e; unfold Rep at h
    obtain ⟨a, vs, rfl, _, q, l, rl⟩ := h
    cases r
    cases e2 : toPrL xs with
    | none => rw [e2] at e; cases e
    | some ps =>
      rw [e2] at e; cases e
      obtain ⟨_, hs, rs, kv, o, es, ep, ho, ex, hd, _, pr, _⟩ := dk_of I.hok q
      obtain ⟨k1, k2⟩ := kv_parts l kv
      obtain ⟨as, hr, hn⟩ := readsDL I S xs vs _ ps e2 rl k2
      have lp : (ks.map keyPy).length = ps.length := by rw [List.length_map, l, toPrL_len e2, rl.length]
      have rk : ReadsAll s.heap (es.toList.map (·.key)) (((ks.map keyPy).zip ps).map (·.1)) [] := by
        rw [map_fst_zip' _ _ lp, ← k1, List.map_map]
        exact keys_read pr
      have rvv : ReadsAll s.heap (es.toList.map (·.val)) (((ks.map keyPy).zip ps).map (·.2)) as := by
        rw [map_snd_zip' _ _ lp, vals_pairs pr]
        exact hr
      refine ⟨_, .dict ho ex.1 hd rk rvv, fun z => ?_⟩
      rcases List.mem_append.mp z with z | z
      · rcases List.mem_cons.mp z with z | z
        · exact (beq_eq_false_iff_ne.mp hs) z.symm
        · exact nomatch z
      · exact hn z
  | .ref _, v, u, p, e, h, r => by unfold toPr at e; cases e
  | .frz _, v, u, p, e, h, r => by unfold toPr at e; cases e
theorem readsDL (I : Inv X pins σ H s) (S : Stat s.heap) : ∀ (ds : List D) (vs : List V) (us : List Value) (ps : List PyData), toPrL ds = some ps → RepL X.K H m ds vs → Vals vs us → ∃ as, ReadsAll s.heap us ps as ∧ sysModules ∉ as
  | [], vs, us, ps, e, h, r => by unfold toPrL at e; unfold RepL at h; cases e; subst h; cases r; exact ⟨_, .nil, List.not_mem_nil⟩
  | d :: ds, vs, us, ps, e, h, r => by
    unfold toPrL at e; unfold RepL at h
    obtain ⟨v, rr, rfl, h1, h2⟩ := h
    cases r with
    | cons r1 r2 =>
      cases e1 : toPr d with
      | none => rw [e1] at e; cases e
      | some p =>
        cases e2 : toPrL ds with
        | none => rw [e1, e2] at e; cases e
        | some ps' =>
          rw [e1, e2] at e; cases e
          obtain ⟨as, q1, n1⟩ := readsD I S d v _ p e1 h1 r1
          obtain ⟨bs, q2, n2⟩ := readsDL I S ds rr _ ps' e2 h2 r2
          exact ⟨_, .cons q1 q2, fun z => (List.mem_append.mp z).elim n1 n2⟩
end
/-- a value, or the list that a slot alone holds -/
theorem readsW (I : Inv X pins σ H s) (S : Stat s.heap) : ∀ (d : D) (v : V) (u : Value) (p : PyData), toPr d = some p → RepW X.K H m d v → RelV v u → ∃ as, Reads s.heap u p as ∧ sysModules ∉ as
  | .lst xs, v, u, p, e, h, r => by
    unfold toPr at e; unfold RepW at h
    obtain ⟨a, vs, rfl, q, rl⟩ := h
    cases r
    cases e2 : toPrL xs with
    | none => rw [e2] at e; cases e
    | some ps =>
      rw [e2] at e; cases e
      obtain ⟨its, rv, ⟨o, n, ho, hc, _, hd⟩, _⟩ := I.list (SqL.of (K := X.K) q)
      obtain ⟨as, hr, hn⟩ := readsDL (m := m) I S xs vs its ps e2 rl rv
      refine ⟨_, .list ho hc hd hr, fun z => ?_⟩
      rcases List.mem_cons.mp z with z | z
      · exact not_mods S ho hd z
      · exact hn z
  | .non, v, u, p, e, h, r => readsD (m := m) I S _ v u p e h r
  | .bl _, v, u, p, e, h, r => readsD (m := m) I S _ v u p e h r
  | .int _, v, u, p, e, h, r => readsD (m := m) I S _ v u p e h r
  | .str _, v, u, p, e, h, r => readsD (m := m) I S _ v u p e h r
  | .tup _, v, u, p, e, h, r => readsD (m := m) I S _ v u p e h r
  | .dct _ _, v, u, p, e, h, r => readsD (m := m) I S _ v u p e h r
  | .ref _, v, u, p, e, h, r => by unfold toPr at e; cases e
  | .frz _, v, u, p, e, h, r => by unfold toPr at e; cases e
end
end Mn

namespace Mn
open PySem PySem.Spec PyProof.Rows L2
/-! ### sum, tuple, list -/
section
variable {X : Cx}
theorem repl_ints_of {K : PySem.W.Frag} {H : Hp} {m : Ms} : ∀ {ns : List Int} {vs : List V}, RepL K H m (ns.map D.int) vs → vs = ns.map V.int
  | [], vs, h => by unfold List.map RepL at h; exact h
  | n :: ns, vs, h => by
    unfold List.map RepL at h
    obtain ⟨v, r, rfl, h1, h2⟩ := h
    unfold Rep at h1
    rw [h1, repl_ints_of h2]
    rfl
def sumD : On := fun ds hc P => match ds with
  | [.lst xs] => ∃ ns : List Int, xs = ns.map D.int ∧ P (.int ns.sum)
  | _ => False
theorem bf_sum (hc : X.calm = true) : CallR X (.builtin "sum") (LVn X.K sumD) := by
  intro pins s σ H xs us Q I r h
  obtain ⟨hc', m, ds, P, w, h1, f, fin⟩ := h
  unfold sumD at f
  split at f
  · obtain ⟨x, rfl, k1⟩ := wl1 h1
    unfold RepW at k1
    obtain ⟨p, vs, rfl, q, rl⟩ := k1
    obtain ⟨ns, rfl, pd⟩ := f
    rw [repl_ints_of rl] at q
    exact cr_sum hc pins s σ H _ us Q I r ⟨p, ns, rfl, .of q, fin _ pd _ _ (.refl H) rep_int⟩
  · exact f.elim
def tupleFD : On := fun ds hc P => match ds with
  | [.lst xs] => P (.tup xs)
  | [.frz xs] => P (.tup xs)
  | [.tup xs] => P (.tup xs)
  | [.ref a] => oth (hc a) fun xs => P (.tup xs)
  | _ => False
theorem bt_tuple : CallR X (.type "tuple") (LVn X.K tupleFD) := by
  intro pins s σ H xs us Q I r h
  obtain ⟨hc', m, ds, P, w, h1, f, fin⟩ := h
  unfold tupleFD at f
  split at f
  · obtain ⟨x, rfl, k1⟩ := wl1 h1
    unfold RepW at k1
    obtain ⟨p, vs, rfl, q, rl⟩ := k1
    exact call_tuple_of pins s σ H _ us Q I r ⟨p, vs, rfl, .inl ⟨.of q, fun l n => fin _ f _ _ (same_upd n) (rep_tup w.mu n rl)⟩⟩
  · obtain ⟨x, rfl, k1⟩ := wl1 h1
    unfold RepW Rep at k1
    obtain ⟨p, vs, rfl, q, rl⟩ := k1
    exact call_tuple_of pins s σ H _ us Q I r ⟨p, vs, rfl, .inl ⟨q.sq, fun l n => fin _ f _ _ (same_upd n) (rep_tup w.mu n rl)⟩⟩
  · obtain ⟨x, rfl, k1⟩ := wl1 h1
    unfold RepW Rep at k1
    obtain ⟨p, vs, rfl, q, rl⟩ := k1
    refine call_tuple_of pins s σ H _ us Q I r ⟨p, vs, rfl, .inr ⟨q, fin _ f _ _ (.refl H) ?_⟩⟩
    unfold Rep
    exact ⟨p, vs, rfl, q, rl⟩
  · obtain ⟨x, rfl, k1⟩ := wl1 h1
    unfold RepW Rep at k1
    subst k1
    obtain ⟨zs, e, f⟩ := oth_of f
    obtain ⟨vs, q, rl⟩ := w.heap _ _ e
    exact call_tuple_of pins s σ H _ us Q I r ⟨_, vs, rfl, .inl ⟨.of q, fun l n => fin _ f _ _ (same_upd n) (rep_tup w.mu n rl)⟩⟩
  · exact f.elim
def listFD : On := fun ds hc P => match ds with
  | [.lst xs] => P (.lst xs)
  | [.frz xs] => P (.lst xs)
  | [.tup xs] => P (.lst xs)
  | _ => False
theorem bt_list : CallR X (.type "list") (LVn X.K listFD) := by
  intro pins s σ H xs us Q I r h
  obtain ⟨hc', m, ds, P, w, h1, f, fin⟩ := h
  unfold listFD at f
  split at f
  · obtain ⟨x, rfl, k1⟩ := wl1 h1
    unfold RepW at k1
    obtain ⟨p, vs, rfl, q, rl⟩ := k1
    exact call_list_of pins s σ H _ us Q I r ⟨p, vs, rfl, .inl (.of q), fun l n => fin _ f _ _ (same_upd n) (rep_lst w.mu n rl)⟩
  · obtain ⟨x, rfl, k1⟩ := wl1 h1
    unfold RepW Rep at k1
    obtain ⟨p, vs, rfl, q, rl⟩ := k1
    exact call_list_of pins s σ H _ us Q I r ⟨p, vs, rfl, .inl q.sq, fun l n => fin _ f _ _ (same_upd n) (rep_lst w.mu n rl)⟩
  · obtain ⟨x, rfl, k1⟩ := wl1 h1
    unfold RepW Rep at k1
    obtain ⟨p, vs, rfl, q, rl⟩ := k1
    exact call_list_of pins s σ H _ us Q I r ⟨p, vs, rfl, .inr q, fun l n => fin _ f _ _ (same_upd n) (rep_lst w.mu n rl)⟩
  · exact f.elim
/-! ### xs[::-1] -/
def revD : O1
  | .lst xs, _, P => P (.lst xs.reverse)
  | _, _, _ => False
end
theorem RepL.rev {K : PySem.W.Frag} {H : Hp} {m : Ms} : ∀ {ds : List D} {vs : List V}, RepL K H m ds vs → RepL K H m ds.reverse vs.reverse
  | [], vs, h => by unfold RepL at h; subst h; exact RepL.nil
  | d :: ds, vs, h => by
    unfold RepL at h
    obtain ⟨v, r, rfl, h1, h2⟩ := h
    rw [List.reverse_cons, List.reverse_cons]
    exact (RepL.rev h2).append (RepL.cons h1 RepL.nil)
section
variable {X : Cx} {W : WX} {e : Expr} {ce : CEx} {pos : Pos}
theorem ce_rev {k : Nat} {p1 p2 p3 : Pos} (h : CB X W e ce) : CE X W (.Subscript e (.Slice none none (some (.UnaryOp .USub (.Constant (.int 1) k p1) p2)) p3) pos) (cUn revD ce) :=
  ⟨pe_wk (pe_revL h.p) fun σ H Q ⟨en, sc, hc, m, E, P, r, k, xo, fin⟩ =>
    ⟨en, sc, hc, m, E, _, r, k, xo, fun d hc1 p v H1 m1 x1 q => by
      have q := q.w (r.call x1)
      cases d <;> try exact p.elim
      rename_i xs
      unfold RepW at q
      obtain ⟨a, vs, rfl, q1, rl⟩ := q
      refine ⟨a, vs, rfl, .of q1, fun l n => ?_⟩
      exact fin _ hc1 p _ _ _ (x1.trans (.same x1.toWd (same_upd n))) (rep_lst x1.mu n rl.rev)⟩⟩
/-! ### x, y = [], e -/
theorem Rs.tmp {K : PySem.W.Frag} {en : En} {σ : L2.St} {H : Hp} {sc : List Sl} {hc : CH} {m : Ms} (r : Rs K en σ H sc hc m) {p : Addr} {ds : List D} {vs : List V} (n : H p = none) (q : RepL K H m ds vs) :
    Rs K en σ (upd H p (.lst vs)) sc hc (fun a => m a ∨ a = p) ∧ Stp H m (upd H p (.lst vs)) (fun a => m a ∨ a = p) ∧ en.H p = none ∧ hc p = none ∧ ∀ (j : Nat) (es : List D), sc[j]? = some (Sl.own es) → σ[j]? ≠ some (some (V.ref p)) := by
  have st : Stp H m (upd H p (.lst vs)) (fun a => m a ∨ a = p) := ⟨fun a o e _ => same_upd n a o e, fun a z => z.elim .inl fun e => .inr (by rw [e]; exact n)⟩
  have e0 : en.H p = none := by
    cases e : en.H p with
    | none => rfl
    | some o => exact absurd n (r.live p o e)
  have hn := hc_none r.toWd n
  refine ⟨⟨⟨⟨fun a z => ?_, fun a ds' e => .inl (r.hm a ds' e), fun a ds' e => ?_⟩, r.emut, r.ehm, fun a o e h => same_upd n a o (r.keep a o e h), fun a z => ?_, fun a z h => .inl (r.hold a z h), r.hgrow, fun a o e => ?_⟩, fun j d e => ?_, fun j ds' e => ?_, r.sep, r.len⟩, st, e0, hn, fun j es e z => ?_⟩
  · rcases z with z | rfl
    · obtain ⟨ws, e⟩ := r.mu a z
      exact ⟨ws, same_upd n _ _ e⟩
    · exact ⟨vs, upd_same⟩
  · obtain ⟨ws, e1, q1⟩ := r.heap a ds' e
    exact ⟨ws, same_upd n _ _ e1, RepL.mono r.mu st _ _ q1⟩
  · rcases z with z | rfl
    · exact r.grow a z
    · exact .inr e0
  · cases e2 : H a with
    | none => exact absurd e2 (r.live a o e)
    | some u => rw [same_upd n a u e2]; simp
  · obtain ⟨v, e1, q1⟩ := r.slot j d e
    exact ⟨v, e1, Rep.mono r.mu st _ _ q1⟩
  · obtain ⟨a, ws, e1, e2, e3, e4, e5, q1⟩ := r.own j ds' e
    exact ⟨a, ws, e1, .inl e2, e3, e4, same_upd n _ _ e5, RepL.mono r.mu st _ _ q1⟩
  · obtain ⟨a, ws, e1, e2, e3, e4, e5, q1⟩ := r.own j es e
    rw [z] at e1; cases e1
    rw [n] at e5; cases e5
theorem Rs.owned {K : PySem.W.Frag} {en : En} {σ : L2.St} {H : Hp} {sc : List Sl} {hc : CH} {m : Ms} (r : Rs K en σ H sc hc m) (i : Nat) {p : Addr} (mp : m p) (e0 : en.H p = none) (hn : hc p = none) (hp : H p = some (.lst []))
    (no : ∀ (j : Nat) (es : List D), sc[j]? = some (Sl.own es) → σ[j]? ≠ some (some (V.ref p))) : Rs K en (σ.set i (some (.ref p))) H (sc.set i (.own [])) hc m := by
  have hs : ∀ {j : Nat} {x : Sl}, (sc.set i (.own []))[j]? = some x → (i = j ∧ i < sc.length ∧ x = .own []) ∨ (i ≠ j ∧ sc[j]? = some x) := fun {j x} e => by
    by_cases h : i = j
    · subst h
      by_cases l : i < sc.length
      · rw [List.getElem?_set_self l] at e; cases e; exact .inl ⟨rfl, l, rfl⟩
      · rw [List.getElem?_eq_none (by rw [List.length_set]; omega)] at e; cases e
    · rw [List.getElem?_set_ne h] at e; exact .inr ⟨h, e⟩
  have hv : ∀ {j : Nat}, i < sc.length → (σ.set i (some (V.ref p)))[i]? = some (some (V.ref p)) := fun {j} l => List.getElem?_set_self (by rw [← r.len]; exact l)
  refine ⟨r.toEx, fun j d e => ?_, fun j ds e => ?_, fun j l ds es a e1 e2 e3 e4 => ?_, by rw [List.length_set, List.length_set]; exact r.len⟩
  · rcases hs e with ⟨_, _, z⟩ | ⟨h, e⟩
    · cases z
    · rw [List.getElem?_set_ne h]; exact r.slot j d e
  · rcases hs e with ⟨rfl, l, z⟩ | ⟨h, e⟩
    · cases z
      exact ⟨p, [], hv (j := 0) l, mp, e0, hn, hp, RepL.nil⟩
    · rw [List.getElem?_set_ne h]; exact r.own j ds e
  · rcases hs e1 with ⟨rfl, l1, _⟩ | ⟨h1, e1⟩ <;> rcases hs e2 with ⟨rfl, l2, _⟩ | ⟨h2, e2⟩
    · rfl
    · rw [hv (j := 0) l1] at e3; cases e3
      rw [List.getElem?_set_ne h2] at e4
      exact (no _ _ e2 e4).elim
    · rw [hv (j := 0) l2] at e4; cases e4
      rw [List.getElem?_set_ne h1] at e3
      exact (no _ _ e1 e3).elim
    · rw [List.getElem?_set_ne h1] at e3
      rw [List.getElem?_set_ne h2] at e4
      exact r.sep _ _ _ _ _ e1 e2 e3 e4
def cParO (i j : Nat) (ca : CEx) : CSx := fun C sc hc => ca C.xp sc hc fun d hc1 => C.nx ((sc.set i (.own [])).set j (.val d)) hc1
theorem cs_parO {i j : Nat} {x y : Str} {b : Expr} {px py pt p3 : Pos} {kt k2 : Nat} {p2 : Pos} (hc : X.calm = true) (hN : X.N.Nodup) (hb : CE X W b ce) (hw : swappedStores [.Tuple [.Name x px, .Name y py] kt pt] (.Tuple [.List [] p3, b] k2 p2) X.env = pure (some [x, y]) := by rfl) (hi : X.N[i]? = some x := by rfl) (hj : X.N[j]? = some y := by rfl) (hij : i ≠ j := by decide)
    (hx : X.env.scope.names.lookup x = some .local := by rfl) (hy : X.env.scope.names.lookup y = some .local := by rfl)
    (hs : swapsWithSole [.Tuple [.Name x px, .Name y py] kt pt] (.Tuple [.List [] p3, b] k2 p2) pos.line X.env = pure false := by rfl)
    (h1 : starEach [.List [] p3, b] X.env = (false, eval (.List [] p3) X.env) :: starEach [b] X.env := by rfl) (h2 : starEach [b] X.env = (false, eval b X.env) :: starEach [] X.env := by rfl) : CS X W (.Assign [.Tuple [.Name x px, .Name y py] kt pt] (.Tuple [.List [] p3, b] k2 p2) pos) (cParO i j ce) :=
  ⟨ps_wk (ps_par hc hN hi hj hij hx hy (pa_cons (pe_lst pa_nil) (pa_cons hb.p pa_nil h2) h1) hw hs) fun D σ H ⟨en, sc, hc, m, C, r, k, f⟩ => by
    refine ⟨by show (0 : Nat) ≤ sizeLine; exact Nat.zero_le _, fun p n => ?_⟩
    obtain ⟨r1, s1, e0, hn, no⟩ := r.tmp (ds := []) n RepL.nil
    refine ⟨en, sc, hc, _, C.xp, _, r1, k, f.xp, fun d hc2 pd v H2 m2 x2 q2 => ?_⟩
    have r2 := r1.call x2
    have hc2n : hc2 p = none := by
      cases e : hc2 p with
      | none => rfl
      | some ds =>
        rcases x2.hgrow p ds e with z | z
        · exact (z hn).elim
        · rw [show (⟨upd H p (.lst []), hc, fun a => m a ∨ a = p⟩ : En).H p = some (.lst []) from upd_same] at z; cases z
    have r3 := r2.owned i (x2.hold p (.inr rfl) hn) e0 hc2n (x2.keep p _ upd_same hn) no
    exact ⟨.ref p, v, rfl, f.nx _ hc2 pd _ H2 m2 (r3.put j q2) (s1.trans x2.stp)⟩⟩
end
/-! ### repr -/
def Sh (n c : Nat) (d : D) : Prop := ∃ p, toPr d = some p ∧ bigP p = true ∧ p.depth ≤ n ∧ p.shown.length ≤ c
def shw (d : D) : Str := match toPr d with
  | some p => p.shown
  | none => ""
def ShOk (d : D) : Prop := ∃ n c, n ≤ 64 ∧ c ≤ sizeLine ∧ Sh n c d
def reprD : On := fun ds _ P => match ds with
  | [d] => ShOk d ∧ P (.str (shw d))
  | _ => False
theorem bf_repr {X : Cx} {k : Nat} (g : RG k X.A) (st : statK X.K = true) : CallR X (.builtin "repr") (LVn X.K reprD) := by
  intro pins s σ H xs us Q I r h
  obtain ⟨hc', m, ds, P, w, h1, f, fin⟩ := h
  unfold reprD at f
  split at f
  · rename_i d
    obtain ⟨v, rfl, k1⟩ := wl1 h1
    obtain ⟨⟨n, c, hn, hcz, p, ep, sp, dp, lp⟩, q⟩ := f
    unfold shw at q
    rw [ep] at q
    obtain ⟨u, rfl, ru⟩ := vals1 r
    have S : Stat s.heap := stat_of I.kIn I.nolimit st
    obtain ⟨as, rd, nm⟩ := readsW I S d v u p ep k1 ru
    have hz : p.shown.length ≤ sizeLine := by omega
    have done : ∀ (h' : Heap) (t tk : Nat), (∀ b o, s.heap.get? b = some o → h'.get? b = some o) → EP X pins σ Q (.str p.shown t) { s with heap := h', toks := tk } := fun h' t tk hk =>
      ⟨.str p.shown, H, I.kept (t' := tk) hk, ⟨t, rfl⟩, fin _ q _ _ (.refl H) rep_str⟩
    have un := g.r.un
    cases rd with
    | none => exact PySem.P.repr_of_none (done s.heap _ _ fun _ _ e => e)
    | bool b => exact PySem.P.repr_of_bool (done s.heap _ _ fun _ _ e => e)
    | int i t => exact call_repr_slot (T := "int") (idr := "int.__repr__") (by omega) (typeIs_int s i t) F.slot_int_repr.toG (call_intrepr S sp ⟨_, _, rfl, done s.heap _ _ fun _ _ e => e⟩)
    | str x t => exact PySem.P.repr_of_str (done s.heap _ _ fun _ _ e => e) hz
    | list a1 a2 a3 a4 => exact repr_tree S (.list a1 a2 a3 a4) sp nm g.g (by omega) hz (fun h' t tk hk => done h' t tk hk)
    | tuple a1 a2 a3 a4 => exact repr_tree S (.tuple a1 a2 a3 a4) sp nm g.g (by omega) hz (fun h' t tk hk => done h' t tk hk)
    | dict a1 a2 a3 a4 a5 => exact repr_tree S (.dict a1 a2 a3 a4 a5) sp nm g.g (by omega) hz (fun h' t tk hk => done h' t tk hk)
  · exact f.elim
theorem Sh.up {n c n2 c2 : Nat} {d : D} (h : Sh n c d) (hn : n ≤ n2) (hc : c ≤ c2) : Sh n2 c2 d := by
  obtain ⟨p, a, b, f, g⟩ := h
  exact ⟨p, a, b, by omega, by omega⟩
theorem Sh.ok {n c : Nat} {d : D} (h : Sh n c d) (hn : n ≤ 64 := by decide) (hc : c ≤ sizeLine := by decide) : ShOk d := ⟨n, c, hn, hc, h⟩
theorem sh_non : Sh 0 4 .non := ⟨.none, by unfold toPr; rfl, rfl, Nat.le_refl _, by decide⟩
theorem sh_bl {b : Bool} : Sh 0 5 (.bl b) := ⟨.bool b, by unfold toPr; rfl, rfl, Nat.le_refl _, by cases b <;> decide⟩
theorem sh_str {s : Str} {c : Nat} (h : (reprText s).length ≤ c) : Sh 0 c (.str s) := ⟨.str s, by unfold toPr; rfl, rfl, Nat.le_refl _, by rw [PyData.shown]; exact h⟩
theorem textFrom_up : ∀ (ts : List Str) (k : Nat) (acc : Str), (textFrom k acc ts).length ≤ acc.length + piled ts
  | [], k, acc => by show acc.length ≤ _; omega
  | t :: r, k, acc => by
    have h := textFrom_up r (k + 1) (acc ++ (if k > 0 then ", " else "" : String) ++ t)
    rw [piled_cons]
    rw [strLen_append, strLen_append] at h
    have e : (((if k > 0 then ", " else "" : String) : Str)).length ≤ 2 := by split <;> decide
    show (textFrom (k + 1) (acc ++ (if k > 0 then ", " else "" : String) ++ t) r).length ≤ _
    omega
theorem piled_up {c : Nat} : ∀ ts : List Str, (∀ t ∈ ts, t.length ≤ c) → piled ts ≤ ts.length * (c + 2)
  | [], _ => by rw [piled_nil]; exact Nat.zero_le _
  | t :: r, h => by
    have h1 := piled_up r fun x hx => h x (List.mem_cons_of_mem _ hx)
    have h2 := h t (List.mem_cons_self ..)
    rw [piled_cons, List.length_cons, Nat.succ_mul]
    omega
theorem listText_len_le (ts : List Str) (c : Nat) (h : ∀ t ∈ ts, t.length ≤ c) : (listText ts).length ≤ ts.length * (c + 2) + 2 ∧ (tupleText ts).length ≤ ts.length * (c + 2) + 3 := by
  have hp := piled_up ts h
  constructor
  · unfold listText
    have h1 := textFrom_up ts 0 "["
    rw [strLen_append]
    have e1 : (("[" : String) : Str).length = 1 := rfl
    have e2 : (("]" : String) : Str).length = 1 := rfl
    rw [e1] at h1
    rw [e2]
    omega
  · unfold tupleText
    rw [strLen_append, strLen_append]
    have e1 : ((("(" : String) : Str)).length = 1 := rfl
    have e3 : (((if ts.length == 1 then ",)" else ")" : String) : Str)).length ≤ 2 := by split <;> decide
    rw [e1]
    by_cases h0 : ts = []
    · subst h0
      have e4 : (Str.join ", " []).length = 0 := rfl
      rw [e4]; omega
    · have := join_length_add ts h0
      omega
theorem sh_big {i : Int} (h : i.natAbs < 2 ^ 12900) : Sh 0 12901 (.int i) := by
  have t : IntTxt i = true := decide_eq_true h
  refine ⟨.int i, by unfold toPr; rfl, by unfold bigP; exact t, Nat.le_refl _, ?_⟩
  rw [PyData.shown, PySem.ofString_length]
  exact int_text_length_le (k := 12900) (by decide) (log_of t)
theorem sh_i {i : Int} (h : i.natAbs < 2 ^ 1920) : Sh 0 1921 (.int i) := by
  have hl : i.natAbs.log2 < 1920 := by
    by_cases z : i.natAbs = 0
    · rw [z]; decide
    · exact (Nat.log2_lt z).mpr h
  refine ⟨.int i, by unfold toPr; rfl, by unfold bigP; exact decide_eq_true (Nat.lt_of_lt_of_le h (Nat.pow_le_pow_right (by decide) (by decide))), Nat.le_refl _, ?_⟩
  rw [PyData.shown]
  exact PyProof.Rows.int_text_len_1921 hl
/-- an integer of at most so many digits -/
theorem sh_dig {i : Int} {k : Nat} (h0 : 0 < k) (h : i.natAbs < 10 ^ k) (hk : i.natAbs < 2 ^ 12900) : Sh 0 (k + 1) (.int i) := by
  refine ⟨.int i, by unfold toPr; rfl, by unfold bigP; exact decide_eq_true hk, Nat.le_refl _, ?_⟩
  rw [PyData.shown, PySem.ofString_length]
  exact int_text_length_le10 h0 h
theorem shL {n c : Nat} : ∀ ds : List D, (∀ d ∈ ds, Sh n c d) → ∃ ps, toPrL ds = some ps ∧ bigPs ps = true ∧ PyData.depthAll ps ≤ n ∧ (PyData.shownAll ps).length = ds.length ∧ ∀ t ∈ PyData.shownAll ps, t.length ≤ c
  | [], _ => ⟨[], by unfold toPrL; rfl, rfl, Nat.zero_le _, rfl, fun t h => by simp [PyData.shownAll] at h⟩
  | d :: ds, h => by
    obtain ⟨p, a, b, f, g⟩ := h d (List.mem_cons_self ..)
    obtain ⟨ps, a2, b2, f2, g2, l2⟩ := shL ds fun x hx => h x (List.mem_cons_of_mem _ hx)
    refine ⟨p :: ps, by unfold toPrL; rw [a, a2], by unfold bigPs; rw [b, b2]; rfl, by simp [PyData.depthAll]; omega, by simp [PyData.shownAll, g2], fun t ht => ?_⟩
    simp only [PyData.shownAll, List.mem_cons] at ht
    rcases ht with rfl | ht
    · exact g
    · exact l2 t ht
theorem sh_lst {n c : Nat} {ds : List D} (h : ∀ d ∈ ds, Sh n c d) : Sh (n + 1) (ds.length * (c + 2) + 2) (.lst ds) := by
  obtain ⟨ps, a, b, f, g, l⟩ := shL ds h
  refine ⟨.list ps, by unfold toPr; rw [a]; rfl, by unfold bigP; exact b, by simp [PyData.depth]; omega, ?_⟩
  have := (listText_len_le (PyData.shownAll ps) c l).1
  rw [g] at this
  simpa [PyData.shown] using this
theorem sh_tup {n c : Nat} {ds : List D} (h : ∀ d ∈ ds, Sh n c d) : Sh (n + 1) (ds.length * (c + 2) + 3) (.tup ds) := by
  obtain ⟨ps, a, b, f, g, l⟩ := shL ds h
  refine ⟨.tuple ps, by unfold toPr; rw [a]; rfl, by unfold bigP; exact b, by simp [PyData.depth]; omega, ?_⟩
  have := (listText_len_le (PyData.shownAll ps) c l).2
  rw [g] at this
  simpa [PyData.shown] using this
section
variable {hc : CH} {P : D → Prop} {i j : Nat} {a : Addr} {xs ys : List D} {d : D} {ca : CEx} {C : CEnds} {sc : List Sl} {l u : Int}
theorem o_rev : revD (.lst xs) hc P = P (.lst xs.reverse) := rfl
theorem o_tupF : tupleFD [.lst xs] hc P = P (.tup xs) := rfl
theorem o_tupF2 : tupleFD [.tup xs] hc P = P (.tup xs) := rfl
theorem o_lstF : listFD [.lst xs] hc P = P (.lst xs) := rfl
theorem o_lstF2 : listFD [.tup xs] hc P = P (.lst xs) := rfl
theorem o_repr : reprD [d] hc P = (ShOk d ∧ P (.str (shw d))) := rfl
theorem e_ParO : cParO i j ca C sc hc = ca C.xp sc hc fun d hc1 => C.nx ((sc.set i (.own [])).set j (.val d)) hc1 := rfl
theorem o_isN1 : isND .non .non hc P = P (.bl true) := rfl
theorem o_isN2 : isND (.tup xs) .non hc P = P (.bl false) := rfl
theorem o_isN3 : isND (.int l) .non hc P = P (.bl false) := rfl
theorem o_isN4 : isND (.lst xs) .non hc P = P (.bl false) := rfl
theorem o_notN1 : notND .non .non hc P = P (.bl false) := rfl
theorem o_notN2 : notND (.tup xs) .non hc P = P (.bl true) := rfl
theorem o_notN3 : notND (.int l) .non hc P = P (.bl true) := rfl
theorem o_notN4 : notND (.lst xs) .non hc P = P (.bl true) := rfl
theorem o_sum {ns : List Int} (h : P (.int ns.sum)) : sumD [.lst (ns.map D.int)] hc P := ⟨ns, rfl, h⟩
end
/-! ### comprehensions, what they run over a letter -/
theorem lc_step {ci : CIx} {i : Nat} {ce : CEx} {own : List Nat} {E : XP} {sc : List Sl} {hc : CH} {P : D → CH → Prop}
    (h : ∀ R : List D → CH → Prop, (∀ (ds : List D) (hc1 : CH) (f : D → D), ds.length ≤ sizeLine → (∀ d ∈ ds, ∀ Nx : D → CH → Prop, Nx (f d) hc1 → ce (fun _ _ _ => False) ((wipeC sc own).set i (.val d)) hc1 Nx) → P (.lst (ds.map f)) hc1 → R ds hc1) → ci E sc hc R) :
    cLc ci (gN i) cYes ce own E sc hc P := h (fun ds hc1 => ds.length ≤ sizeLine ∧ lcW (gN i) cYes ce own sc ds [] hc1 fun out hc2 => P (.lst out) hc2) fun _ _ f z st q => ⟨z, lc_map f st q⟩
theorem lc_inv {ci : CIx} {g : CGx} {t : CTx} {ce : CEx} {own : List Nat} {E : XP} {sc : List Sl} {hc : CH} {P : D → CH → Prop}
    (h : ∀ R : List D → CH → Prop, (∀ (ds : List D) (hc1 : CH) (I : Nat → List D → CH → Prop), ds.length ≤ sizeLine → I 0 [] hc1 →
      (∀ (j : Nat) (d : D) acc hc (Nx : List D → CH → Prop), ds[j]? = some d → I j acc hc → (∀ acc' hc', I (j + 1) acc' hc' → Nx acc' hc') → g (fun _ _ _ => False) d (wipeC sc own) hc fun sc1 hc1 => t (fun _ _ _ => False) sc1 hc1 fun b hc2 =>
        if b = true then ce (fun _ _ _ => False) sc1 hc2 fun y hc3 => Nx (acc ++ [y]) hc3 else Nx acc hc2) → (∀ acc hc, I ds.length acc hc → P (.lst acc) hc) → R ds hc1) → ci E sc hc R) :
    cLc ci g t ce own E sc hc P := h (fun ds hc1 => ds.length ≤ sizeLine ∧ lcW g t ce own sc ds [] hc1 fun out hc2 => P (.lst out) hc2) fun ds hc1 I z b st q =>
      ⟨z, lcW_inv I ds 0 b (fun j d acc hc Nx e k nx => st j d acc hc Nx e (by rw [Nat.zero_add] at k; exact k) fun a h z => nx a h (by rw [Nat.zero_add]; exact z)) fun acc hc k => q acc hc (by rw [Nat.zero_add] at k; exact k)⟩
def onI (g : Int → Int) : D → D
  | .int x => .int (g x)
  | d => d
theorem rng_map {g : Int → Int} {lo hi : Int} : (rngD lo hi).map (onI g) = ((List.range (hi - lo).toNat).map fun k => g (lo + (k : Nat))).map D.int := by
  unfold rngD
  rw [List.map_map, List.map_map]
  rfl
theorem rng_mem {lo hi : Int} {d : D} (h : d ∈ rngD lo hi) : ∃ x : Int, d = .int x ∧ lo ≤ x ∧ x < hi := by
  unfold rngD at h
  obtain ⟨k, hk, rfl⟩ := List.mem_map.mp h
  rw [List.mem_range] at hk
  exact ⟨_, rfl, by omega, by omega⟩
theorem e_Star {ca : CEx} {c : CAx} {E : XP} {sc : List Sl} {hc : CH} {PA : List D → CH → Prop} : cStar ca c E sc hc PA = ca E sc hc fun d hc1 => match d with
  | .tup xs => c E sc hc1 fun ds hc2 => PA (xs ++ ds) hc2
  | .lst xs => c E sc hc1 fun ds hc2 => PA (xs ++ ds) hc2
  | _ => False := rfl
theorem wipe_0 {sc : List Sl} : wipeC sc [] = sc := rfl
theorem wipe_s {sc : List Sl} {v : Nat} {vs : List Nat} : wipeC sc (v :: vs) = (wipeC sc vs).set v .un := rfl
section
variable {g : CGx} {gs : CGsx} {E : XP} {d : D} {xs : List D} {n : Nat} {sc : List Sl} {hc : CH} {P : List Sl → CH → Prop}
theorem e_gNil : gNil' E [] sc hc P = P sc hc := rfl
theorem e_gCons : gCons' g gs E (d :: xs) sc hc P = g E d sc hc fun sc1 hc1 => gs E xs sc1 hc1 P := rfl
theorem e_gUnT : gUn n gs E (.tup xs) sc hc P = (xs.length = n ∧ gs E xs sc hc P) := rfl
theorem e_gUnL : gUn n gs E (.lst xs) sc hc P = (xs.length = n ∧ gs E xs sc hc P) := rfl
theorem e_gTup : gTup' n gs E (.tup xs) sc hc P = (xs.length = n ∧ gs E xs sc hc P) := rfl
end
/-! ### what is never reached -/
def cDead : CSx := fun _ _ _ => False
theorem cs_dead {X : Cx} {W : WX} {st : Stmt} : CS X W st cDead := ⟨⟨fun pins s σ H D I ⟨_, _, _, _, _, _, k, _⟩ => k.elim⟩⟩
def cDeadE : CEx := fun _ _ _ _ => False
theorem ce_dead {X : Cx} {W : WX} {e : Expr} : CE X W e cDeadE := ⟨⟨fun pins s σ H Q I ⟨_, _, _, _, _, _, _, k, _⟩ => k.elim⟩⟩
end Mn

namespace Mn
open PySem PySem.Spec PyProof.Rows L2
/-! ### bits, divmod -/
section
variable {X : Cx} {W : WX} {e : Expr} {ce : CEx} {pos apos : Pos}
def bitsD : O1
  | .int i, _, P => P (.int (Builtin.Int.intBits i : Nat))
  | _, _, _ => False
theorem ce_bits (h : CB X W e ce) (hb : attributeBase e "bit_length" X.env (eval e X.env) = eval e X.env := by rfl) (hl : (apos.endLine == pos.line) = true := by rfl) : CE X W (.Call (.Attribute e "bit_length" apos) [] [] pos) (cUn bitsD ce) :=
  ⟨pe_wk (pe_bits h.p hb hl) fun σ H Q ⟨en, sc, hc, m, E, P, r, k, xo, fin⟩ =>
    ⟨en, sc, hc, m, E, _, r, k, xo, fun d hc1 p v H1 m1 x1 q => by
      have q := q.w (r.call x1)
      cases d <;> try exact p.elim
      unfold RepW Rep at q
      exact ⟨_, q, fin _ hc1 p _ _ _ x1 rep_int⟩⟩⟩
def divmodD : On := fun ds _ P => match ds with
  | [.int i, .int j] => DivOk i j ∧ P (.tup [.int (i / j), .int (i % j)])
  | _ => False
theorem bf_divmod : CallR X (.builtin "divmod") (LVn X.K divmodD) := by
  intro pins s σ H xs us Q I r h
  obtain ⟨hc', m, ds, P, w, h1, f, fin⟩ := h
  unfold divmodD at f
  split at f
  · obtain ⟨x, y, rfl, k1, k2⟩ := wl2 h1
    unfold RepW Rep at k1 k2
    subst k1; subst k2
    exact call_divmodW pins s σ H _ us Q I r ⟨_, _, rfl, f.1, fun l n => fin _ f.2 _ _ (same_upd n) (rep_tup w.mu n (RepL.cons rep_int (RepL.cons rep_int RepL.nil)))⟩
  · exact f.elim
/-! ### in -/
def inG (neg : Bool) (x : D) (xs : List D) (P : D → Prop) : Prop := ∃ p ps, toPy x = some p ∧ toPyL xs = some ps ∧ p.canLay0 = true ∧ p.depth ≤ 64 ∧ PyData.canLayAll0 ps = true ∧ P (.bl (if neg then !ps.any fun z => PyData.eqv z p else ps.any fun z => PyData.eqv z p))
def inD : O2 := fun x y _ P => match y with
  | .lst ys => inG false x ys P
  | .tup ys => inG false x ys P
  | _ => False
def ninD : O2 := fun x y _ P => match y with
  | .lst ys => inG true x ys P
  | .tup ys => inG true x ys P
  | _ => False
theorem op_inDD {k : Nat} (g : RG k X.A) : OpR X (compareOp .In) (LV2 X.K inD) := by
  intro pins s σ H x y v u Q I rx ry h
  obtain ⟨hc, m, dx, dy, P, w, h1, h2, f, fin⟩ := h
  have un := g.r.un
  cases dy <;> try exact f.elim
  all_goals
    obtain ⟨p, ps, e1, e2, c1, l1, c2, q⟩ := f
    obtain ⟨as, r1⟩ := Dp.reads I p x v (dpw_of _ _ _ e1 h1) rx
  · obtain ⟨bs, r2⟩ := Dp.reads I (.tuple ps) y u (dpw_of _ _ _ (by unfold toPy; rw [e2]; rfl) h2) ry
    exact SeqAt.in_tuple_reads r2 r1 c2 c1 (Nat.lt_of_le_of_lt (Nat.add_le_add_left (Nat.min_le_right _ _) _) (by omega)) ⟨.bl _, H, I, rfl, eq_flat fin q⟩
  · obtain ⟨bs, r2⟩ := Dp.reads I (.list ps) y u (dpw_of _ _ _ (by unfold toPy; rw [e2]; rfl) h2) ry
    exact SeqAt.in_list_reads r2 r1 c2 c1 (Nat.lt_of_le_of_lt (Nat.add_le_add_left (Nat.min_le_right _ _) _) (by omega)) ⟨.bl _, H, I, rfl, eq_flat fin q⟩
theorem op_ninDD {k : Nat} (g : RG k X.A) : OpR X (compareOp .NotIn) (LV2 X.K ninD) := by
  intro pins s σ H x y v u Q I rx ry h
  obtain ⟨hc, m, dx, dy, P, w, h1, h2, f, fin⟩ := h
  have un := g.r.un
  cases dy <;> try exact f.elim
  all_goals
    obtain ⟨p, ps, e1, e2, c1, l1, c2, q⟩ := f
    obtain ⟨as, r1⟩ := Dp.reads I p x v (dpw_of _ _ _ e1 h1) rx
  · obtain ⟨bs, r2⟩ := Dp.reads I (.tuple ps) y u (dpw_of _ _ _ (by unfold toPy; rw [e2]; rfl) h2) ry
    exact SeqAt.notIn_tuple_reads r2 r1 c2 c1 (Nat.lt_of_le_of_lt (Nat.add_le_add_left (Nat.min_le_right _ _) _) (by omega)) ⟨.bl _, H, I, rfl, eq_flat fin q⟩
  · obtain ⟨bs, r2⟩ := Dp.reads I (.list ps) y u (dpw_of _ _ _ (by unfold toPy; rw [e2]; rfl) h2) ry
    exact SeqAt.notIn_list_reads r2 r1 c2 c1 (Nat.lt_of_le_of_lt (Nat.add_le_add_left (Nat.min_le_right _ _) _) (by omega)) ⟨.bl _, H, I, rfl, eq_flat fin q⟩
end
theorem any_ok {n m : Nat} {x : D} {p : PyData} (ex : toPy x = some p) (hx : okD n x = true) : ∀ {xs : List D} {ps : List PyData}, xs.all (okD m) = true → toPyL xs = some ps → ((ps.any fun z => PyData.eqv z p) = true ↔ x ∈ xs)
  | [], ps, _, e => by unfold toPyL at e; cases e; simp
  | y :: ys, ps, h, e => by
    unfold toPyL at e
    rw [List.all_cons, Bool.and_eq_true] at h
    split at e
    · next q qs f1 f2 =>
      cases e
      obtain ⟨q', e1, _, _, k⟩ := okPy m y h.1
      rw [f1] at e1; cases e1
      rw [List.any_cons, Bool.or_eq_true, any_ok ex hx h.2 f2, k x n p hx ex, List.mem_cons]
      exact or_congr ⟨Eq.symm, Eq.symm⟩ Iff.rfl
    · cases e
theorem inG_ok {neg : Bool} {n m : Nat} {x : D} {xs : List D} {P : D → Prop} (hx : okD n x = true) (hy : xs.all (okD m) = true) (h1 : x ∈ xs → P (.bl (!neg))) (h2 : x ∉ xs → P (.bl neg)) (hn : n ≤ 64 := by decide) : inG neg x xs P := by
  obtain ⟨p, e1, c1, l1, k1⟩ := okPy n x hx
  obtain ⟨ps, e2, c2, _, _⟩ := okPyL (okPy m) xs hy
  refine ⟨p, ps, e1, e2, c1, by omega, c2, ?_⟩
  have k := any_ok e1 hx hy e2
  cases z : ps.any fun z => PyData.eqv z p with
  | true => have := h1 (k.mp z); cases neg <;> exact this
  | false => have := h2 fun w => by rw [k.mpr w] at z; cases z
             cases neg <;> exact this
section
variable {hc : CH} {P : D → Prop} {i j : Int} {x : D} {xs : List D}
theorem o_bits : bitsD (.int i) hc P = P (.int (Builtin.Int.intBits i : Nat)) := rfl
theorem o_divmod : divmodD [.int i, .int j] hc P = (DivOk i j ∧ P (.tup [.int (i / j), .int (i % j)])) := rfl
theorem o_inL : inD x (.lst xs) hc P = inG false x xs P := rfl
theorem o_inT : inD x (.tup xs) hc P = inG false x xs P := rfl
theorem o_ninL : ninD x (.lst xs) hc P = inG true x xs P := rfl
theorem o_ninT : ninD x (.tup xs) hc P = inG true x xs P := rfl
end
end Mn

namespace Mn
open PySem PySem.Spec PyProof.Rows L2
/-! ### a new list that only a slot will hold: x = a + b, x = [.. for ..], x = list(e) -/
def LF (X : Cx) (W : WX) (c : CEx) : TE := fun σ H Q => ∃ en sc hc m E P, Rs X.K en σ H sc hc m ∧ c E sc hc P ∧ XOk X W en E ∧
  ∀ d hc', P d hc' → ∃ ds, d = .lst ds ∧ ∀ p vs H' m', Ex X.K ⟨H, hc, m⟩ H' hc' m' → m' p → H p = none → hc' p = none → H' p = some (.lst vs) → RepL X.K H' m' ds vs → Q (.ref p) H'
structure CF (X : Cx) (W : WX) (e : Expr) (c : CEx) : Prop where
  p : PE X e (LF X W c)
theorem Rs.adopt {K : PySem.W.Frag} {en : En} {σ : L2.St} {H : Hp} {sc : List Sl} {hc : CH} {m : Ms} (r : Rs K en σ H sc hc m) (i : Nat) {p : Addr} {ds : List D} {vs : List V} (mp : m p) (e0 : en.H p = none) (hn : hc p = none) (hp : H p = some (.lst vs)) (q : RepL K H m ds vs)
    (no : ∀ (j : Nat) (es : List D), sc[j]? = some (Sl.own es) → σ[j]? ≠ some (some (V.ref p))) : Rs K en (σ.set i (some (.ref p))) H (sc.set i (.own ds)) hc m := by
  have hs : ∀ {j : Nat} {x : Sl}, (sc.set i (.own ds))[j]? = some x → (i = j ∧ i < sc.length ∧ x = .own ds) ∨ (i ≠ j ∧ sc[j]? = some x) := fun {j x} e => by
    by_cases h : i = j
    · subst h
      by_cases l : i < sc.length
      · rw [List.getElem?_set_self l] at e; cases e; exact .inl ⟨rfl, l, rfl⟩
      · rw [List.getElem?_eq_none (by rw [List.length_set]; omega)] at e; cases e
    · rw [List.getElem?_set_ne h] at e; exact .inr ⟨h, e⟩
  have hv : ∀ {j : Nat}, i < sc.length → (σ.set i (some (V.ref p)))[i]? = some (some (V.ref p)) := fun {j} l => List.getElem?_set_self (by rw [← r.len]; exact l)
  refine ⟨r.toEx, fun j d e => ?_, fun j ds' e => ?_, fun j l ds es a e1 e2 e3 e4 => ?_, by rw [List.length_set, List.length_set]; exact r.len⟩
  · rcases hs e with ⟨_, _, z⟩ | ⟨h, e⟩
    · cases z
    · rw [List.getElem?_set_ne h]; exact r.slot j d e
  · rcases hs e with ⟨rfl, l, z⟩ | ⟨h, e⟩
    · cases z
      exact ⟨p, vs, hv (j := 0) l, mp, e0, hn, hp, q⟩
    · rw [List.getElem?_set_ne h]; exact r.own j ds' e
  · rcases hs e1 with ⟨rfl, l1, _⟩ | ⟨h1, e1⟩ <;> rcases hs e2 with ⟨rfl, l2, _⟩ | ⟨h2, e2⟩
    · rfl
    · rw [hv (j := 0) l1] at e3; cases e3
      rw [List.getElem?_set_ne h2] at e4
      exact (no _ _ e2 e4).elim
    · rw [hv (j := 0) l2] at e4; cases e4
      rw [List.getElem?_set_ne h1] at e3
      exact (no _ _ e1 e3).elim
    · rw [List.getElem?_set_ne h1] at e3
      rw [List.getElem?_set_ne h2] at e4
      exact r.sep _ _ _ _ _ e1 e2 e3 e4
theorem Rs.newown {K : PySem.W.Frag} {en : En} {σ : L2.St} {H H' : Hp} {sc : List Sl} {hc hc' : CH} {m m' : Ms} (r : Rs K en σ H sc hc m) (i : Nat) {p : Addr} {ds : List D} {vs : List V} (x : Ex K ⟨H, hc, m⟩ H' hc' m') (mp : m' p) (hp : H p = none) (hn : hc' p = none) (e : H' p = some (.lst vs)) (q : RepL K H' m' ds vs) :
    Rs K en (σ.set i (some (.ref p))) H' (sc.set i (.own ds)) hc' m' := by
  refine (r.call x).adopt i mp ?_ hn e q fun j es e1 z => ?_
  · cases e2 : en.H p with
    | none => rfl
    | some o => exact absurd hp (r.live p o e2)
  · obtain ⟨a, ws, e2, _, _, _, e3, _⟩ := r.own j es e1
    rw [z] at e2; cases e2
    rw [hp] at e3; cases e3
def cSetF (i : Nat) (ce : CEx) : CSx := fun C sc hc => ce C.xp sc hc fun d hc1 => match d with | .lst ds => C.nx (sc.set i (.own ds)) hc1 | _ => False
section
variable {X : Cx} {W : WX} {e a b : Expr} {ce ca cb : CEx} {pos : Pos}
theorem cs_setF {i : Nat} {x : Str} {p2 : Pos} (hN : X.N.Nodup) (he : CF X W e ce) (hi : X.N[i]? = some x := by rfl) (hx : Loc X.env.scope x := by first | exact Or.inl rfl | exact Or.inr rfl) (hs : swapsWith e (some (.Name x p2)) pos.line X.env = pure false := by rfl) (hf : X.fn x = true ∨ X.env.scope.names.lookup x = some .local := by first | exact .inl rfl | exact .inr rfl) :
    CS X W (.Assign [.Name x p2] e pos) (cSetF i ce) := ⟨ps_wk (ps_set hN hi hx he.p hs hf) fun D σ H ⟨en, sc, hc, m, C, r, k, f⟩ =>
  ⟨en, sc, hc, m, C.xp, _, r, k, f.xp, fun d hc1 p => by
    cases d <;> try exact p.elim
    exact ⟨_, rfl, fun q vs H1 m1 x1 mp hp hn e q => f.nx _ hc1 p _ H1 m1 (r.newown i x1 mp hp hn e q) x1.stp⟩⟩⟩
/-- two lists, one behind the other -/
def catD : O2
  | .lst xs, .lst ys, _, P => xs.length + ys.length ≤ sizeLine ∧ P (.lst (xs ++ ys))
  | .ref a, .lst ys, hc, P => oth (hc a) fun xs => xs.length + ys.length ≤ sizeLine ∧ P (.lst (xs ++ ys))
  | .lst xs, .ref a, hc, P => oth (hc a) fun ys => xs.length + ys.length ≤ sizeLine ∧ P (.lst (xs ++ ys))
  | _, _, _, _ => False
def LV2F (K : PySem.W.Frag) (f : O2) : R2 := fun x y H Q => ∃ hc m dx dy P, Wd K H hc m ∧ RepW K H m dx x ∧ RepW K H m dy y ∧ f dx dy hc P ∧ ∀ d, P d → ∃ ds, d = .lst ds ∧ ∀ vs p, H p = none → RepL K H m ds vs → Q (.ref p) (upd H p (.lst vs))
theorem op_catF : OpR X (binaryOp .Add) (LV2F X.K catD) := by
  intro pins s σ H x y v u Q I rx ry h
  obtain ⟨hc, m, dx, dy, P, w, h1, h2, f, fin⟩ := h
  cases dx <;> cases dy <;> try exact f.elim
  · rename_i xs ys
    unfold RepW at h1 h2
    obtain ⟨p, vs, rfl, q1, r1⟩ := h1
    obtain ⟨p2, vs2, rfl, q2, r2⟩ := h2
    obtain ⟨ds, e, fin⟩ := fin _ f.2
    cases e
    exact op_cat pins s σ H _ _ v u Q I rx ry ⟨p, p2, vs, vs2, rfl, rfl, q1, q2, by rw [← r1.length, ← r2.length]; exact f.1, fun q n => fin _ _ n (r1.append r2)⟩
  · unfold RepW at h1 h2
    unfold Rep at h2
    obtain ⟨p, vs, rfl, q1, r1⟩ := h1
    subst h2
    obtain ⟨zs, e, lz, f⟩ := oth_of f
    obtain ⟨ws, q2, r2⟩ := w.heap _ _ e
    obtain ⟨ds, e, fin⟩ := fin _ f
    cases e
    exact op_cat pins s σ H _ _ v u Q I rx ry ⟨p, _, vs, ws, rfl, rfl, q1, q2, by rw [← r1.length, ← r2.length]; exact lz, fun q n => fin _ _ n (r1.append r2)⟩
  · unfold RepW at h1 h2
    unfold Rep at h1
    obtain ⟨p, vs, rfl, q1, r1⟩ := h2
    subst h1
    obtain ⟨zs, e, lz, f⟩ := oth_of f
    obtain ⟨ws, q2, r2⟩ := w.heap _ _ e
    obtain ⟨ds, e, fin⟩ := fin _ f
    cases e
    exact op_cat pins s σ H _ _ v u Q I rx ry ⟨_, p, ws, vs, rfl, rfl, q2, q1, by rw [← r1.length, ← r2.length]; exact lz, fun q n => fin _ _ n (r2.append r1)⟩
theorem own_new {K : PySem.W.Frag} {H : Hp} {hc : CH} {m : Ms} {p : Addr} {ds : List D} {vs : List V} (w : Wd K H hc m) (n : H p = none) (q : RepL K H m ds vs) :
    Ex K ⟨H, hc, m⟩ (upd H p (.lst vs)) hc (fun a => m a ∨ a = p) ∧ hc p = none ∧ RepL K (upd H p (.lst vs)) (fun a => m a ∨ a = p) ds vs := by
  have st : Stp H m (upd H p (.lst vs)) (fun a => m a ∨ a = p) := ⟨fun a o e _ => same_upd n a o e, fun a z => z.elim .inl fun e => .inr (by rw [e]; exact n)⟩
  refine ⟨⟨⟨fun a z => ?_, fun a es e => .inl (w.hm a es e), fun a es e => ?_⟩, w.mu, w.hm, fun a o e _ => same_upd n a o e, st.grow, fun a z _ => .inl z, fun a es e => .inl (by show hc a ≠ none; rw [e]; simp), fun a o e => by rw [same_upd n a o e]; simp⟩, hc_none w n, RepL.mono w.mu st _ _ q⟩
  · rcases z with z | rfl
    · obtain ⟨ws, e⟩ := w.mu a z
      exact ⟨ws, same_upd n _ _ e⟩
    · exact ⟨vs, upd_same⟩
  · obtain ⟨ws, e1, q1⟩ := w.heap a es e
    exact ⟨ws, same_upd n _ _ e1, RepL.mono w.mu st _ _ q1⟩
theorem opF_lift {f : O2} {σ : L2.St} {H : Hp} {Q : VK} (h : LF X W (cOp f ca cb) σ H Q) : LB X W ca σ H fun x H1 => LB X W cb σ H1 fun y H2 => LV2F X.K f x y H2 Q := by
  obtain ⟨en, sc, hc, m, E, P, r, c, xo, fin⟩ := h
  refine ⟨en, sc, hc, m, E, _, r, c, xo, fun dx hc1 hp v H1 m1 x1 q1 => ⟨en, sc, hc1, m1, E, _, r.call x1, hp, xo, fun dy hc2 hp2 w H2 m2 x2 q2 => ⟨hc2, m2, dx, dy, _, x2.toWd, (q1.mono (r.call x1) x2.stp).w ((r.call x1).call x2), q2.w ((r.call x1).call x2), hp2, fun d pd => ?_⟩⟩⟩
  obtain ⟨ds, e, g⟩ := fin d hc2 pd
  refine ⟨ds, e, fun vs p n q => ?_⟩
  obtain ⟨y1, y2, y3⟩ := own_new x2.toWd n q
  have x12 := x1.trans x2
  exact g p vs _ _ (x12.trans y1) (.inr rfl) (by
    cases e3 : H p with
    | none => rfl
    | some o => exact absurd n (x12.live p o e3)) y2 upd_same y3
theorem cf_cat (ha : CB X W a ca) (hb : CB X W b cb) : CF X W (.BinOp a .Add b pos) (cOp catD ca cb) :=
  ⟨pe_wk (pe_op op_catF ha.p hb.p) fun σ H Q h => opF_lift h⟩
end
section
variable {X : Cx} {W : WX} {tg iter elt : Expr} {ifs : List Expr} {pos : Pos} {vs : List Nat} {ce : CEx} {ct : CTx}
theorem lc_liftF {ci : CIx} {g : CGx} {σ : L2.St} {H : Hp} {Q : VK} (h : LF X W (cLc ci g ct ce vs) σ H Q) : tLc (LI X W ci) (LGk X W vs g) (LT X W ct) (LE X W ce) vs σ H Q := by
  obtain ⟨en, sc, hc, m, E, P, r, k, xo, fin⟩ := h
  refine lc_gen r k xo fun acc hc' k' L H' m' ws xa mL hL' HL ra hH => ?_
  obtain ⟨ds, e, g⟩ := fin _ hc' k'
  cases e
  exact g L ws H' m' xa mL hH hL' HL ra
theorem cf_lc {ci : CIx} {g : CGx} {scope : Scope} {own : List (Str × Nat)} (hc : X.calm = true) (hN : X.N.Nodup) (hi : CI X W tg iter ci) (ok : BlkOk X.N X.env.scope scope own)
    (hg : ∀ (s : Shared) (H : Hp) (C : Addr) (cl : List (Str × Addr)) (fp : List Addr), CGk (X.blk s H scope (compEnvC scope cl C X.env) fp) W (own.map (·.2)) tg g)
    (ht : ∀ (s : Shared) (H : Hp) (C : Addr) (cl : List (Str × Addr)) (fp : List Addr), CTs (X.blk s H scope (compEnvC scope cl C X.env) fp) W ifs ct)
    (he : ∀ (s : Shared) (H : Hp) (C : Addr) (cl : List (Str × Addr)) (fp : List Addr), CE (X.blk s H scope (compEnvC scope cl C X.env) fp) W elt ce) (hs : ∀ x, foldedSetIterable iter X.env x = pure x := by intro _; rfl) :
    CF X W (.ListComp elt [⟨tg, iter, ifs, 0⟩] scope pos) (cLc ci g ct ce (own.map (·.2))) :=
  ⟨pe_wk (pe_lc (g := LGk X W (List.map (fun p : Str × Nat => p.2) own) g) (tt := LT X W ct) (te := LE X W ce) hc hN hi.p ok (fun s H C cl fp => (hg s H C cl fp).p) (fun s H C cl fp => (ht s H C cl fp).p) (fun s H C cl fp => (he s H C cl fp).p) hs) fun σ H Q h => lc_liftF h⟩
theorem cs_lcF {i : Nat} {y : Str} {py : Pos} {sp2 : Pos} {ci : CIx} {g : CGx} {scope : Scope} {own : List (Str × Nat)} (hc : X.calm = true) (hN : X.N.Nodup) (hi : CI X W tg iter ci) (ok : BlkOk X.N X.env.scope scope own)
    (hg : ∀ (s : Shared) (H : Hp) (C : Addr) (cl : List (Str × Addr)) (fp : List Addr), CGk (X.blk s H scope (compEnvC scope cl C X.env) fp) W (own.map (·.2)) tg g)
    (ht : ∀ (s : Shared) (H : Hp) (C : Addr) (cl : List (Str × Addr)) (fp : List Addr), CTs (X.blk s H scope (compEnvC scope cl C X.env) fp) W ifs ct)
    (he : ∀ (s : Shared) (H : Hp) (C : Addr) (cl : List (Str × Addr)) (fp : List Addr), CE (X.blk s H scope (compEnvC scope cl C X.env) fp) W elt ce) (hy : X.N[i]? = some y := by rfl) (hyl : X.env.scope.names.lookup y = some .local := by rfl)
    (hsw : swapsWith (.ListComp elt [⟨tg, iter, ifs, 0⟩] scope pos) (some (.Name y py)) sp2.line X.env = pure true := by exact sw_true rfl rfl rfl (by decide +kernel)) (hs : ∀ x, foldedSetIterable iter X.env x = pure x := by intro _; rfl) :
    CS X W (.Assign [.Name y py] (.ListComp elt [⟨tg, iter, ifs, 0⟩] scope pos) sp2) (cSetF i (cLc ci g ct ce (own.map (·.2)))) :=
  ⟨ps_wk (ps_setLc (i := i) (g := LGk X W (List.map (fun p : Str × Nat => p.2) own) g) (tt := LT X W ct) (te := LE X W ce) hc hN hy hyl hsw hi.p ok (fun s H C cl fp => (hg s H C cl fp).p) (fun s H C cl fp => (ht s H C cl fp).p) (fun s H C cl fp => (he s H C cl fp).p) hs) fun D σ H h => by
    obtain ⟨en, sc, hc', m, C, r, k, f⟩ := h
    exact lc_liftF ⟨en, sc, hc', m, C.xp, _, r, k, f.xp, fun d hc1 p => by
      cases d <;> try exact p.elim
      exact ⟨_, rfl, fun q vs H1 m1 x1 mp hp hn e q => f.nx _ hc1 p _ H1 m1 (r.newown i x1 mp hp hn e q) x1.stp⟩⟩⟩
end
theorem o_intB {b : Bool} {hc : CH} {P : D → Prop} : intFD [.bl b] hc P = P (.int (if b then 1 else 0)) := rfl
theorem o_catL {xs ys : List D} {hc : CH} {P : D → Prop} : catD (.lst xs) (.lst ys) hc P = (xs.length + ys.length ≤ sizeLine ∧ P (.lst (xs ++ ys))) := rfl
theorem e_SetF {i : Nat} {ce : CEx} {C : CEnds} {sc : List Sl} {hc : CH} : cSetF i ce C sc hc = ce C.xp sc hc fun d hc1 => match d with | .lst ds => C.nx (sc.set i (.own ds)) hc1 | _ => False := rfl
theorem at_3 {xs : List D} {P : D → Prop} {d e f g : D} : oth (atI (d :: e :: f :: g :: xs) 3) P = P g := by
  have h : atI (d :: e :: f :: g :: xs) 3 = some g := atI_nat' (j := 3) rfl rfl
  rw [h]
  exact propext ⟨fun z => let ⟨x, e, q⟩ := oth_of z; by cases e; exact q, fun z => oth_some rfl z⟩
theorem at_4 {xs : List D} {P : D → Prop} {d e f g i : D} : oth (atI (d :: e :: f :: g :: i :: xs) 4) P = P i := by
  have h : atI (d :: e :: f :: g :: i :: xs) 4 = some i := atI_nat' (j := 4) rfl rfl
  rw [h]
  exact propext ⟨fun z => let ⟨x, e, q⟩ := oth_of z; by cases e; exact q, fun z => oth_some rfl z⟩
/-! ### == of the same data, truths among them -/
def okB : Nat → D → Bool
  | _, .non => true
  | _, .bl _ => true
  | _, .int _ => true
  | _, .str s => PyData.canLay0 (.str s)
  | n + 1, .tup xs => xs.all (okB n)
  | n + 1, .lst xs => xs.all (okB n)
  | _, _ => false
def LayB (n : Nat) (d : D) : Prop := ∃ p, toPy d = some p ∧ p.canLay0 = true ∧ p.depth ≤ n
theorem layBL {n : Nat} (ih : ∀ d, okB n d = true → LayB n d) : ∀ ds : List D, ds.all (okB n) = true → ∃ ps, toPyL ds = some ps ∧ PyData.canLayAll0 ps = true ∧ PyData.depthAll ps ≤ n
  | [], _ => ⟨[], rfl, rfl, Nat.zero_le _⟩
  | d :: ds, h => by
    rw [List.all_cons, Bool.and_eq_true] at h
    obtain ⟨p, e1, c1, l1⟩ := ih d h.1
    obtain ⟨ps, e2, c2, l2⟩ := layBL ih ds h.2
    exact ⟨p :: ps, by unfold toPyL; rw [e1, e2], by simp [PyData.canLayAll0, c1, c2], by simp [PyData.depthAll]; omega⟩
theorem layB : ∀ (n : Nat) (d : D), okB n d = true → LayB n d
  | n, .non, _ => ⟨.none, by unfold toPy; rfl, rfl, by simp [PyData.depth]⟩
  | n, .bl b, _ => ⟨.bool b, by unfold toPy; rfl, rfl, by simp [PyData.depth]⟩
  | n, .int i, _ => ⟨.int i, by unfold toPy; rfl, rfl, by simp [PyData.depth]⟩
  | n, .str i, g => ⟨.str i, by unfold toPy; rfl, by cases n <;> exact g, by simp [PyData.depth]⟩
  | n + 1, .tup xs, g => by
    obtain ⟨ps, e1, c1, l1⟩ := layBL (layB n) xs g
    exact ⟨.tuple ps, by unfold toPy; rw [e1]; rfl, c1, by simp [PyData.depth]; omega⟩
  | n + 1, .lst xs, g => by
    obtain ⟨ps, e1, c1, l1⟩ := layBL (layB n) xs g
    exact ⟨.list ps, by unfold toPy; rw [e1]; rfl, c1, by simp [PyData.depth]; omega⟩
  | 0, .tup _, g => by simp [okB] at g
  | 0, .lst _, g => by simp [okB] at g
  | n, .ref _, g => by cases n <;> simp [okB] at g
  | n, .dct _ _, g => by cases n <;> simp [okB] at g
  | n, .frz _, g => by cases n <;> simp [okB] at g
theorem eqGB_same {neg : Bool} {x : D} {P : D → Prop} (n : Nat) (hx : okB n x = true) (k : P (.bl (!neg))) (hn : n ≤ 64) : eqG neg x x P := by
  obtain ⟨p, e, c, l⟩ := layB n x hx
  have sh : SeqAt.shaped p = true := by
    unfold SeqAt.shaped
    rw [c, decide_eq_true (by omega)]; rfl
  refine ⟨p, p, e, e, sh, sh, ?_⟩
  rw [SeqAt.eqv_refl p c]
  cases neg <;> exact k
theorem eqB_same {x : D} {hc : CH} {P : D → Prop} (n : Nat) (hx : okB n x = true) (k : P (.bl true)) (hn : n ≤ 64 := by decide) : eqD x x hc P := by
  unfold eqD
  split
  · rw [decide_eq_true rfl]; exact k
  · rw [decide_eq_true rfl]; exact k
  · exact k
  · exact eqGB_same n hx k hn
theorem neB_same {x : D} {hc : CH} {P : D → Prop} (n : Nat) (hx : okB n x = true) (k : P (.bl false)) (hn : n ≤ 64 := by decide) : neD x x hc P := by
  unfold neD
  split
  · rw [decide_eq_true rfl]; exact k
  · rw [decide_eq_true rfl]; exact k
  · exact k
  · exact eqGB_same n hx k hn
theorem eqD_bb {a b : Bool} {hc : CH} {P : D → Prop} (k : P (.bl (a == b))) : eqD (.bl a) (.bl b) hc P := by
  refine ⟨.bool a, .bool b, rfl, rfl, rfl, rfl, ?_⟩
  have e : PyData.eqv (.bool a) (.bool b) = (a == b) := by cases a <;> cases b <;> rfl
  rw [e]; exact k
theorem neD_bb {a b : Bool} {hc : CH} {P : D → Prop} (k : P (.bl (a != b))) : neD (.bl a) (.bl b) hc P := by
  refine ⟨.bool a, .bool b, rfl, rfl, rfl, rfl, ?_⟩
  have e : PyData.eqv (.bool a) (.bool b) = (a == b) := by cases a <;> cases b <;> rfl
  rw [e]; exact k
/-! ### is of bools -/
def isBD : O2 := fun x y _ P => match x, y with | .bl a, .bl b => P (.bl (decide (a = b))) | _, _ => False
def notBD : O2 := fun x y _ P => match x, y with | .bl a, .bl b => P (.bl (!decide (a = b))) | _, _ => False
theorem op_isBD {X : Cx} : OpR X (compareOp .Is) (LV2 X.K isBD) := by
  intro pins s σ H x y v u Q I rx ry h
  obtain ⟨hc, m, dx, dy, P, w, h1, h2, f, fin⟩ := h
  cases dx <;> cases dy <;> try exact f.elim
  unfold RepW Rep at h1 h2
  subst h1; subst h2
  exact op_isBl pins s σ H _ _ v u Q I rx ry ⟨_, _, rfl, rfl, fin _ f _ _ (.refl H) rep_bl⟩
theorem op_notBD {X : Cx} : OpR X (compareOp .IsNot) (LV2 X.K notBD) := by
  intro pins s σ H x y v u Q I rx ry h
  obtain ⟨hc, m, dx, dy, P, w, h1, h2, f, fin⟩ := h
  cases dx <;> cases dy <;> try exact f.elim
  unfold RepW Rep at h1 h2
  subst h1; subst h2
  exact op_notBl pins s σ H _ _ v u Q I rx ry ⟨_, _, rfl, rfl, fin _ f _ _ (.refl H) rep_bl⟩
theorem o_isB {a b : Bool} {hc : CH} {P : D → Prop} : isBD (.bl a) (.bl b) hc P = P (.bl (decide (a = b))) := rfl
theorem o_notB {a b : Bool} {hc : CH} {P : D → Prop} : notBD (.bl a) (.bl b) hc P = P (.bl (!decide (a = b))) := rfl
/-! ### values of any kind -/
def isW : D → Bool | .int _ => true | _ => false
def NoRef : D → Prop | .ref _ => False | _ => True
def betw (d : D) (lo hi : Int) : Bool := match d with | .int i => decide (lo ≤ i) && decide (i ≤ hi) | _ => false
theorem betw_ok {i lo hi : Int} (h0 : lo ≤ i) (h1 : i ≤ hi) : betw (.int i) lo hi = true := by
  show (decide (lo ≤ i) && decide (i ≤ hi)) = true
  rw [decide_eq_true h0, decide_eq_true h1]; rfl
theorem isi_nr {n : String} {d : D} {hc : CH} {P : D → Prop} (h : NoRef d) (k : P (.bl (isTy n d))) : isiD n d hc P := ⟨by cases d <;> first | trivial | exact h.elim, k⟩
section
variable {hc : CH} {P : D → Prop} {n : String} {i : Int} {b : Bool} {s : Str} {xs : List D} {ks : List Key}
theorem o_isi1 : isiD n .non hc P = P (.bl (isTy n .non)) := propext ⟨fun h => h.2, fun h => ⟨trivial, h⟩⟩
theorem o_isi2 : isiD n (.bl b) hc P = P (.bl (isTy n (.bl b))) := propext ⟨fun h => h.2, fun h => ⟨trivial, h⟩⟩
theorem o_isi3 : isiD n (.int i) hc P = P (.bl (isTy n (.int i))) := propext ⟨fun h => h.2, fun h => ⟨trivial, h⟩⟩
theorem o_isi4 : isiD n (.str s) hc P = P (.bl (isTy n (.str s))) := propext ⟨fun h => h.2, fun h => ⟨trivial, h⟩⟩
theorem o_isi5 : isiD n (.tup xs) hc P = P (.bl (isTy n (.tup xs))) := propext ⟨fun h => h.2, fun h => ⟨trivial, h⟩⟩
theorem o_isi6 : isiD n (.lst xs) hc P = P (.bl (isTy n (.lst xs))) := propext ⟨fun h => h.2, fun h => ⟨trivial, h⟩⟩
theorem o_isi7 : isiD n (.dct ks xs) hc P = P (.bl (isTy n (.dct ks xs))) := propext ⟨fun h => h.2, fun h => ⟨trivial, h⟩⟩
theorem o_isi8 : isiD n (.frz xs) hc P = P (.bl (isTy n (.frz xs))) := propext ⟨fun h => h.2, fun h => ⟨trivial, h⟩⟩
theorem ty_int_N : isTy "int" .non = false := by show tyB "NoneType" "int" = _; decide
theorem ty_int_B : isTy "int" (.bl b) = true := by show tyB "bool" "int" = _; decide
theorem ty_int_I : isTy "int" (.int i) = true := by show tyB "int" "int" = _; decide
theorem ty_int_S : isTy "int" (.str s) = false := by show tyB "str" "int" = _; decide
theorem ty_int_T : isTy "int" (.tup xs) = false := by show tyB "tuple" "int" = _; decide
theorem ty_int_L : isTy "int" (.lst xs) = false := by show tyB "list" "int" = _; decide
theorem ty_int_D : isTy "int" (.dct ks xs) = false := by show tyB "dict" "int" = _; decide
theorem ty_bool_N : isTy "bool" .non = false := by show tyB "NoneType" "bool" = _; decide
theorem ty_bool_B : isTy "bool" (.bl b) = true := by show tyB "bool" "bool" = _; decide
theorem ty_bool_I : isTy "bool" (.int i) = false := by show tyB "int" "bool" = _; decide
theorem ty_bool_S : isTy "bool" (.str s) = false := by show tyB "str" "bool" = _; decide
theorem ty_bool_T : isTy "bool" (.tup xs) = false := by show tyB "tuple" "bool" = _; decide
theorem ty_bool_L : isTy "bool" (.lst xs) = false := by show tyB "list" "bool" = _; decide
theorem ty_bool_D : isTy "bool" (.dct ks xs) = false := by show tyB "dict" "bool" = _; decide
theorem ty_str_N : isTy "str" .non = false := by show tyB "NoneType" "str" = _; decide
theorem ty_str_B : isTy "str" (.bl b) = false := by show tyB "bool" "str" = _; decide
theorem ty_str_I : isTy "str" (.int i) = false := by show tyB "int" "str" = _; decide
theorem ty_str_S : isTy "str" (.str s) = true := by show tyB "str" "str" = _; decide
theorem ty_str_T : isTy "str" (.tup xs) = false := by show tyB "tuple" "str" = _; decide
theorem ty_str_L : isTy "str" (.lst xs) = false := by show tyB "list" "str" = _; decide
theorem ty_str_D : isTy "str" (.dct ks xs) = false := by show tyB "dict" "str" = _; decide
theorem ty_tuple_N : isTy "tuple" .non = false := by show tyB "NoneType" "tuple" = _; decide
theorem ty_tuple_B : isTy "tuple" (.bl b) = false := by show tyB "bool" "tuple" = _; decide
theorem ty_tuple_I : isTy "tuple" (.int i) = false := by show tyB "int" "tuple" = _; decide
theorem ty_tuple_S : isTy "tuple" (.str s) = false := by show tyB "str" "tuple" = _; decide
theorem ty_tuple_T : isTy "tuple" (.tup xs) = true := by show tyB "tuple" "tuple" = _; decide
theorem ty_tuple_L : isTy "tuple" (.lst xs) = false := by show tyB "list" "tuple" = _; decide
theorem ty_tuple_D : isTy "tuple" (.dct ks xs) = false := by show tyB "dict" "tuple" = _; decide
theorem ty_list_N : isTy "list" .non = false := by show tyB "NoneType" "list" = _; decide
theorem ty_list_B : isTy "list" (.bl b) = false := by show tyB "bool" "list" = _; decide
theorem ty_list_I : isTy "list" (.int i) = false := by show tyB "int" "list" = _; decide
theorem ty_list_S : isTy "list" (.str s) = false := by show tyB "str" "list" = _; decide
theorem ty_list_T : isTy "list" (.tup xs) = false := by show tyB "tuple" "list" = _; decide
theorem ty_list_L : isTy "list" (.lst xs) = true := by show tyB "list" "list" = _; decide
theorem ty_list_D : isTy "list" (.dct ks xs) = false := by show tyB "dict" "list" = _; decide
theorem ty_dict_N : isTy "dict" .non = false := by show tyB "NoneType" "dict" = _; decide
theorem ty_dict_B : isTy "dict" (.bl b) = false := by show tyB "bool" "dict" = _; decide
theorem ty_dict_I : isTy "dict" (.int i) = false := by show tyB "int" "dict" = _; decide
theorem ty_dict_S : isTy "dict" (.str s) = false := by show tyB "str" "dict" = _; decide
theorem ty_dict_T : isTy "dict" (.tup xs) = false := by show tyB "tuple" "dict" = _; decide
theorem ty_dict_L : isTy "dict" (.lst xs) = false := by show tyB "list" "dict" = _; decide
theorem ty_dict_D : isTy "dict" (.dct ks xs) = true := by show tyB "dict" "dict" = _; decide
end
end Mn

namespace Mn
open PySem PySem.Spec PyProof.Rows L2
/-! ### dicts of constants -/
section
variable {X : Cx} {W : WX} {pos : Pos}
theorem rep_dct {K : PySem.W.Frag} {H : Hp} {m : Ms} {p : Addr} {kvs : List (Key × V)} {ds : List D} (w : MutOk H m) (n : H p = none) (r : RepL K H m ds (kvs.map Prod.snd)) : Rep K (upd H p (.dK kvs)) m (.dct (kvs.map Prod.fst) ds) (.ref p) := by
  unfold Rep
  have e : (kvs.map Prod.fst).zip (kvs.map Prod.snd) = kvs := by
    clear r
    induction kvs with
    | nil => rfl
    | cons a l ih => rw [List.map_cons, List.map_cons, List.zip_cons_cons, ih]
  refine ⟨p, kvs.map Prod.snd, rfl, fun z => ?_, by rw [e]; exact upd_same, by rw [List.length_map, List.length_map], RepL.mono w (.same (same_upd n)) _ _ r⟩
  obtain ⟨vs, e⟩ := w p z
  rw [n] at e; cases e
theorem ce_dct0 : CE X W (.Dict [] [] pos) (cC (.dct [] [])) :=
  ⟨pe_wk pe_dnewK fun σ H Q ⟨en, sc, hc, m, E, P, r, k, xo, fin⟩ p n => fin _ hc k _ _ m (Ex.same r.toWd (same_upd n)) (rep_dct (kvs := []) r.mu n RepL.nil)⟩
theorem tPairs_c {σ : L2.St} : ∀ (kvs : List (Key × V)) (H : Hp) (Q : List (V × V) → Hp → Prop), Q (kvs.map fun kv => (kV kv.1, kv.2)) H → tPairs (kvs.map fun kv => (tC (kV kv.1), tC kv.2)) σ H Q
  | [], H, Q, h => h
  | kv :: r, H, Q, h => tPairs_c r H (fun ps H3 => Q ((kV kv.1, kv.2) :: ps) H3) h
theorem upd_upd {H : Hp} {p : Addr} {a b : HO} : upd (upd H p a) p b = upd H p b := by
  funext q
  unfold upd
  split <;> rfl
theorem ce_dct {keys : List (Option Expr)} {values : List Expr} {ds : List D} (kvs : List (Key × V)) (h : PPs X pos keys values (kvs.map fun kv => (tC (kV kv.1), tC kv.2))) (hr : ∀ H m, RepL X.K H m ds (kvs.map Prod.snd)) (hm : mergeK [] kvs = kvs := by rfl) (hall : keys.all (·.isSome) = true := by rfl) (hl : keys.length = values.length := by rfl) (h0 : keys ≠ [] := by exact List.cons_ne_nil _ _)
    (h15 : keys.length ≤ 15 := by exact Nat.le_of_ble_eq_true rfl) (hk : kvs.length ≤ 15 := by exact Nat.le_of_ble_eq_true rfl) : CE X W (.Dict keys values pos) (cC (.dct (kvs.map Prod.fst) ds)) :=
  ⟨pe_wk (pe_disp h hall hl h0 h15) fun σ H Q ⟨en, sc, hc, m, E, P, r, k, xo, fin⟩ p n => tPairs_c kvs _ _ ⟨upd_same, kvs, rfl, hk, by
    rw [upd_upd, hm]
    exact fin _ hc k _ _ m (Ex.same r.toWd (same_upd n)) (rep_dct r.mu n (hr H m))⟩⟩
end
/-! ### str(..) -/
def strD : On := fun ds _ P => match ds with
  | [.int i] => i.natAbs < 2 ^ 12900 ∧ P (.str (toString i))
  | [.str s] => P (.str s)
  | _ => False
theorem strOf_big {prog : Program} {w : World} {A : Around} {E : Value → Shared → Prop} {s : Shared} {a : Int} {t : Tok} {Q : Value → Shared → Prop} (S : Stat s.heap) (h : IntTxt a = true) (q : Q (.str (toString a) s.toks) { s with toks := s.toks + 1 }) : wpAny (model prog w) A (Builtin.Str.strOf (.int a t)) Q E s := by
  unfold Builtin.Str.strOf
  rw [show Builtin.Str.isExactStr (.int a t) = false from rfl]
  try (have hv : [Value.int a t].any Value.onHeap = false := rfl; simp only [cRoomFor, hv, Bool.false_eq_true, if_false, pure_bind])
  refine wpAny_bind (m := callSpecial? (.int a t) (Str.ofString "__str__")) (wpAny_callSpecial?_slot (name := Str.ofString "__str__") (typeIs_int s a t) F.slot_int_str ?_)
  refine wpAny_call_entry F.slot_int_str (typeIs_int s a t) entry_object_str ?_ (args_object_str _)
  unfold Builtin.«object.__str__»
  refine wpAny_bind (m := slotArgs "__str__" 0 _) (wpAny_pure ?_)
  try (have hv : [Value.int a t].any Value.onHeap = false := rfl; simp only [cRoomFor, hv, Bool.false_eq_true, if_false, pure_bind])
  refine wpAny_bind (m := callSpecialIfBound? (.int a t) (Str.ofString "__repr__")) (wpAny_callSpecialIfBound?_slot (name := Str.ofString "__repr__") (typeIs_int s a t) F.slot_int_repr (call_intrepr S h ?_))
  exact wpAny_pure ⟨_, rfl, wpAny_pure q⟩
theorem str_of_big {prog : Program} {w : World} {A : Around} {E : Value → Shared → Prop} {s : Shared} {a : Int} {t : Tok} {Q : Value → Shared → Prop} (S : Stat s.heap) (h : IntTxt a = true) (q : Q (.str (toString a) s.toks) { s with toks := s.toks + 1 }) : wpAny (model prog w) A (call (.type "str") [.int a t]) Q E s :=
  callType_new F.called_str (by decide) (F.typeCall_str_1 _) (F.newCall_str_1 _) (fun obj => F.args_object_init_2 obj _) F.entry_str_new
    (meets_str_new (S := fun _ R s => Stat s.heap ∧ R (.ok (.ret (.str (toString a) s.toks))) { s with toks := s.toks + 1 }) fun _ _ _ _ _ hq => strOf_big hq.1 h hq.2) ⟨S, typeIs_str _ _ _, q⟩
theorem bt_str {X : Cx} (st : statK X.K = true) : CallR X (.type "str") (LVn X.K strD) := by
  intro pins s σ H xs us Q I r h
  obtain ⟨hc', m, ds, P, w, h1, f, fin⟩ := h
  unfold strD at f
  split at f
  · obtain ⟨x, rfl, k1⟩ := wl1 h1
    unfold RepW Rep at k1
    subst k1
    obtain ⟨u, rfl, ru⟩ := vals1 r
    obtain ⟨t, rfl⟩ := ru
    exact str_of_big (stat_of I.kIn I.nolimit st) (decide_eq_true f.1) ⟨.str _, H, I.tok _, ⟨_, rfl⟩, fin _ f.2 _ _ (.refl H) rep_str⟩
  · obtain ⟨x, rfl, k1⟩ := wl1 h1
    unfold RepW Rep at k1
    subst k1
    obtain ⟨u, rfl, ru⟩ := vals1 r
    obtain ⟨t, rfl⟩ := ru
    exact PySem.P.str_of_str ⟨.str _, H, I, ⟨_, rfl⟩, fin _ f _ _ (.refl H) rep_str⟩
  · exact f.elim
theorem o_str {i : Int} {hc : CH} {P : D → Prop} : strD [.int i] hc P = (i.natAbs < 2 ^ 12900 ∧ P (.str (toString i))) := rfl
theorem o_strS {s : Str} {hc : CH} {P : D → Prop} : strD [.str s] hc P = P (.str s) := rfl
/-! ### shapes of values -/
theorem cutX_len {α : Type} (xs : List α) (lo hi : Option Int) : (cutX xs lo hi).length ≤ xs.length := by
  unfold cutX
  rw [List.length_take, List.length_drop]
  omega
theorem cutX_mem {α : Type} {xs : List α} {lo hi : Option Int} {x : α} (h : x ∈ cutX xs lo hi) : x ∈ xs := List.mem_of_mem_drop (List.mem_of_mem_take h)
def shB (n c : Nat) (d : D) : Bool := match toPr d with
  | some p => bigP p && (decide (p.depth ≤ n) && decide (p.shown.length ≤ c))
  | none => false
theorem Sh.lit {n c : Nat} {d : D} (h : shB n c d = true) : Sh n c d := by
  unfold shB at h
  cases e : toPr d with
  | none => rw [e] at h; cases h
  | some p =>
    rw [e] at h
    have h : (bigP p && (decide (p.depth ≤ n) && decide (p.shown.length ≤ c))) = true := h
    rw [Bool.and_eq_true, Bool.and_eq_true, decide_eq_true_iff, decide_eq_true_iff] at h
    exact ⟨p, e, h.1, h.2.1, h.2.2⟩
theorem toPrL_mem : ∀ {ds : List D} {ps : List PyData} {d : D}, toPrL ds = some ps → d ∈ ds → ∃ p, toPr d = some p
  | [], _, _, _, h => nomatch h
  | x :: ds, ps, d, e, h => by
    unfold toPrL at e
    split at e
    · rename_i p qs e1 e2
      rcases List.mem_cons.mp h with rfl | h
      · exact ⟨p, e1⟩
      · exact toPrL_mem e2 h
    · cases e
theorem nr_of {d : D} {p : PyData} (h : toPr d = some p) : NoRef d := by
  cases d <;> first | trivial | (unfold toPr at h; cases h)
theorem Sh.nr {n c : Nat} {d : D} (h : Sh n c d) : NoRef d := nr_of h.choose_spec.1
theorem Sh.nrT {n c : Nat} {xs : List D} (h : Sh n c (.tup xs)) : ∀ x ∈ xs, NoRef x := fun x hx => by
  obtain ⟨p, e, _⟩ := h
  unfold toPr at e
  cases e2 : toPrL xs with
  | none => rw [e2] at e; cases e
  | some ps =>
    obtain ⟨q, e3⟩ := toPrL_mem e2 hx
    exact nr_of e3
theorem sh_tupK {n c k : Nat} {xs : List D} (hl : xs.length ≤ k) (h : ∀ d ∈ xs, Sh n c d) : Sh (n + 1) (k * (c + 2) + 3) (.tup xs) := (sh_tup h).up (Nat.le_refl _) (by
  have := Nat.mul_le_mul_right (c + 2) hl
  omega)
theorem sh_lstK {n c k : Nat} {xs : List D} (hl : xs.length ≤ k) (h : ∀ d ∈ xs, Sh n c d) : Sh (n + 1) (k * (c + 2) + 2) (.lst xs) := (sh_lst h).up (Nat.le_refl _) (by
  have := Nat.mul_le_mul_right (c + 2) hl
  omega)
section
variable {hc : CH} {P : D → Prop} {xs : List D} {s : Str} {b : Bool} {ks : List Key}
theorem o_isN5 : isND (.str s) .non hc P = P (.bl false) := rfl
theorem o_isN6 : isND (.bl b) .non hc P = P (.bl false) := rfl
theorem o_isN7 : isND (.dct ks xs) .non hc P = P (.bl false) := rfl
theorem o_notN5 : notND (.str s) .non hc P = P (.bl true) := rfl
theorem o_notN6 : notND (.bl b) .non hc P = P (.bl true) := rfl
theorem o_notN7 : notND (.dct ks xs) .non hc P = P (.bl true) := rfl
theorem o_lenS : lenD [.str s] hc P = (s.length ≤ sizeLine ∧ P (.int s.length)) := rfl
end
/-! ### e[::-1], e a list or a tuple -/
section
variable {prog : Program} {w : World} {A : Around} {E : Value → Shared → Prop} {s : Shared}
theorem adj_back (n : Nat) : Builtin.Slice.sliceAdjust none none (-1) (n : Int) = ((n : Int) - 1, -1) := by
  unfold Builtin.Slice.sliceAdjust
  simp
theorem places_back (n : Nat) : Builtin.Slice.slicePlaces ((n : Int) - 1) (-1) (-1) = n := by
  unfold Builtin.Slice.slicePlaces
  rcases Nat.eq_zero_or_pos n with rfl | h
  · rfl
  · simp
    split <;> omega
theorem applied_back {sl : Addr} {one : Value} {n : Nat} {Q : Int × Int × Nat → Shared → Prop} (hsl : s.heap.IsSliceOf sl .none .none one) (p1 : IsPart one (some (-1))) (k : Q ((n : Int) - 1, -1, n) s) : wpAny (model prog w) A (Builtin.Slice.sliceApplied (.ref sl) (pure (n : Int))) Q E s := by
  obtain ⟨ob, g1, _, g2⟩ := hsl
  unfold Builtin.Slice.sliceApplied; unfold Builtin.Slice.sliceFields
  refine wpAny_bind (wpAny_bind (wpAny_field g1 g2 (x := .none) rfl (wpAny_bind (wpAny_field g1 g2 (x := .none) rfl (wpAny_bind (wpAny_field g1 g2 (x := one) rfl (wpAny_pure ?_)))))))
  refine wpAny_bind (HT.slicePart_ p1 ?_)
  show wpAny _ _ (if ((-1 : Int) == 0) = true then _ else _) Q _ s
  rw [if_neg (show ¬ ((-1 : Int) == 0) = true by decide)]
  refine wpAny_bind (PyProof.Rows.slicePart_none (wpAny_bind (PyProof.Rows.slicePart_none (wpAny_bind (wpAny_pure ?_)))))
  show wpAny _ _ (match Builtin.Slice.sliceAdjust none none (-1) (n : Int) with | (a, b) => pure (a, (-1 : Int), Builtin.Slice.slicePlaces a b (-1))) Q _ s
  rw [adj_back]
  show wpAny _ _ (pure ((n : Int) - 1, (-1 : Int), Builtin.Slice.slicePlaces ((n : Int) - 1) (-1) (-1))) Q _ s
  rw [places_back]
  exact wpAny_pure k
theorem pick_back (xs : List Value) : ((List.range xs.length).filterMap fun (j : Nat) => xs.toArray[((xs.length : Int) - 1 + (j : Int) * -1).toNat]?) = xs.reverse := by
  have e : ∀ j ∈ List.range xs.length, xs.toArray[((xs.length : Int) - 1 + (j : Int) * -1).toNat]? = xs.reverse[j]? := fun j hj => by
    have hj := List.mem_range.mp hj
    rw [List.getElem?_reverse hj, show ((xs.length : Int) - 1 + (j : Int) * -1).toNat = xs.length - 1 - j by omega]
    simp
  have all : ∀ ys : List Value, (List.range ys.length).filterMap (fun j => ys[j]?) = ys := fun ys => by
    induction ys with
    | nil => rfl
    | cons a l ih => rw [List.length_cons, List.range_succ_eq_map, List.filterMap_cons]; simp only [List.getElem?_cons_zero, List.filterMap_map]; exact congrArg (a :: ·) ih
  have go : ∀ l : List Nat, (∀ j ∈ l, xs.toArray[((xs.length : Int) - 1 + (j : Int) * -1).toNat]? = xs.reverse[j]?) → (l.filterMap fun (j : Nat) => xs.toArray[((xs.length : Int) - 1 + (j : Int) * -1).toNat]?) = l.filterMap fun j => xs.reverse[j]? := fun l => by
    induction l with
    | nil => intro _; rfl
    | cons a l ih =>
      intro h
      rw [List.filterMap_cons, List.filterMap_cons, h a (List.mem_cons_self ..), ih fun j hj => h j (List.mem_cons_of_mem _ hj)]
  rw [go _ e]
  have := all xs.reverse
  rw [List.length_reverse] at this
  exact this
theorem tuple_back {t sl : Addr} {its : List Value} {one : Value} {Q : Value → Shared → Prop} (ht : IsTup s.heap t its.toArray) (hsl : s.heap.IsSliceOf sl .none .none one) (p1 : IsPart one (some (-1))) (hz : its.length ≤ sizeLine)
    (k : Q (.ref s.heap.objs.size) { s with heap := s.heap.push { cls := .type "tuple", data := .seq its.reverse.toArray } }) : wpAny (model prog w) A (getItem (.ref t) (.ref sl)) Q E s := by
  have fits : sizeOk (.seq its.reverse.toArray) := by
    show its.reverse.toArray.size ≤ sizeLine
    rw [List.size_toArray, List.length_reverse]; exact hz
  obtain ⟨ob, g1, g2, g3⟩ := id hsl
  have isl : s.TypeIs (.ref sl) "slice" := ⟨ob, g1, g2⟩
  have itp := ht.typeIs
  unfold getItem
  try with_reducible refine wpAny_holding ?_
  first | refine wpAny_bind (wpAny_pure ?_) | skip
  refine wpAny_bind (wpAny_sequenceKey itp (by decide) ?_)
  refine wpAny_bind (wpAny_callSpecial?_slot (name := Str.ofString "__getitem__") itp PyProof.Rows.slot_tuple_getitem (wpAny_call_entry PyProof.Rows.slot_tuple_getitem itp PyProof.Rows.entry_tuple_getitem ?_ (PyProof.Rows.args_tuple_getitem _ _)))
  show wpAny _ _ (Builtin.Tuple.tupleItemsOf (.ref t) >>= _) _ _ s
  refine wpAny_bind (PyProof.Rows.tupleItemsOf_ ht (wpAny_bind (wpAny_typeOf isl ?_)))
  rw [if_pos (show (Value.type "slice" == .type "slice") = true by decide)]
  have sz : its.toArray.size = its.length := List.size_toArray ..
  rw [sz]
  refine wpAny_bind (applied_back hsl p1 ?_)
  have not1 : ¬ ((((its.length : Int) - 1) == 0 && (-1 : Int) == 1 && its.length == its.toArray.size) = true) := by
    rw [show ((-1 : Int) == 1) = false by decide, Bool.and_false, Bool.false_and]; exact Bool.false_ne_true
  show wpAny _ _ (if ((((its.length : Int) - 1) == 0 && (-1 : Int) == 1 && its.length == its.toArray.size) = true) then _ else _) _ _ s
  rw [if_neg not1]
  rw [pick_back its]
  first
    | exact wpAny_bind (m := Builtin.Tuple.tupleExact _) (wpAny_newObj_type (wpAny_pure ⟨_, rfl, wpAny_pure k⟩) fits)
    | exact wpAny_bind (m := Builtin.Tuple.tupleExact _) (wpAny_newObj_type (wpAny_bind (wpAny_pure (wpAny_pure ⟨_, rfl, wpAny_pure k⟩))) fits)
    | exact wpAny_bind (wpAny_bind (m := Builtin.Tuple.tupleExact _) (wpAny_newObj_type (wpAny_pure (wpAny_pure ⟨_, rfl, wpAny_pure k⟩)) fits))
    | exact wpAny_bind (wpAny_bind (m := Builtin.Tuple.tupleExact _) (wpAny_newObj_type (wpAny_pure ⟨_, rfl, wpAny_pure k⟩) fits))
end
def tRevB (K : PySem.W.Frag) (te : TE) : TE := fun σ H Q => te σ H fun x H1 => ∃ a, x = .ref a ∧ ((∃ xs, SqL K H1 a xs ∧ ∀ p, H1 p = none → Q (.ref p) (upd H1 p (.lst xs.reverse))) ∨ ∃ xs, SqT K H1 a xs ∧ ∀ p, H1 p = none → Q (.ref p) (upd H1 p (.tup xs.reverse)))
theorem pe_revB {X : Cx} {e : Expr} {te : TE} {k : Nat} {p1 p2 p3 pos : Pos} (he : PE X e te) : PE X (.Subscript e (.Slice none none (some (.UnaryOp .USub (.Constant (.int 1) k p1) p2)) p3) pos) (tRevB X.K te) := by
  refine ⟨fun pins s σ H Q I h => Subscript_ (thn (he.run pins s σ H _ I h) fun v s1 ⟨x, H1, I1, r1, a, ex, q⟩ => ?_)⟩
  subst ex
  cases r1
  have hst : PO X (some (.UnaryOp .USub (.Constant (.int 1) k p1) p2)) (tPart (tUn (rU fun i => .int (-i)) (tC (.int 1)))) := po_some (pe_un un_neg pe_int)
  refine wpAny_Slice (thn (L2.po_none.run pins s1 σ H1 (fun o Ha => o = none ∧ Ha = H1) I1 ⟨rfl, rfl⟩) fun vl s2 ⟨l, Ha, Ia, pl, el, ea⟩ => ?_)
  subst el ea
  refine thn (L2.po_none.run pins s2 σ Ha (fun o Hb => o = none ∧ Hb = Ha) Ia ⟨rfl, rfl⟩) fun vu s3 ⟨u, Hb, Ib, pu, eu, eb⟩ => ?_
  subst eu eb
  refine thn (hst.run pins s3 σ Hb (fun o Hc => o = some (-1) ∧ Hc = Hb) Ib ⟨1, rfl, -1, rfl, rfl, rfl⟩) fun vs s4 ⟨o, Hc, Ic, ps, eo, ec⟩ => ?_
  subst eo ec
  have Id : Inv X pins σ Hc { s4 with heap := s4.heap.push { cls := .type "slice", data := .fields #[vl, vu, vs] } } := Ic.kept (t' := s4.toks) fun b ob z => Heap.get?_push_of_some _ z
  cases pl
  cases pu
  rcases q with ⟨xs, hx, q⟩ | ⟨xs, hx, q⟩
  · obtain ⟨its, r, ht, hz⟩ := Id.list hx
    show wpAny (model X.prog X.w) X.A (subscriptTail e (.Slice none none (some (.UnaryOp .USub (.Constant (.int 1) k p1) p2)) p3) (.ref a) (.ref s4.heap.objs.size)) (EP X pins σ Q) X.xe { s4 with heap := s4.heap.push { cls := .type "slice", data := .fields #[.none, .none, vs] } }
    refine tail_any (ops := [.ref a, .ref s4.heap.objs.size]) ht.isList.typeIs PySem.slot_list_getitem.lookup ?_ (by with_unfolding_all rfl)
    refine wpAny_getItem_list_slice ht.isList (Heap.IsSliceOf.new _ .none .none vs) .none .none ps (by decide) ?_ (by rw [List.size_toArray, ← r.length]; exact hz)
    rw [PySem.W.krv_pick]
    exact ⟨.ref _, _, Id.laid (t' := s4.toks) (o := .lst xs.reverse) (fun b ob z => Heap.get?_push_of_some _ z) (Nat.le_refl _) ⟨by rw [List.length_reverse]; exact hz, _, 0, r.reverse, Heap.get?_push_size _ rfl⟩, rfl, q _ (Id.hok.fresh (Nat.le_refl _))⟩
  · obtain ⟨its, r, ht, hz⟩ := Id.tuple hx
    show wpAny (model X.prog X.w) X.A (subscriptTail e (.Slice none none (some (.UnaryOp .USub (.Constant (.int 1) k p1) p2)) p3) (.ref a) (.ref s4.heap.objs.size)) (EP X pins σ Q) X.xe { s4 with heap := s4.heap.push { cls := .type "slice", data := .fields #[.none, .none, vs] } }
    refine tail_any (ops := [.ref a, .ref s4.heap.objs.size]) ht.typeIs PyProof.Rows.slot_tuple_getitem.lookup ?_ (by with_unfolding_all rfl)
    refine tuple_back ht (Heap.IsSliceOf.new _ .none .none vs) ps (by rw [← r.length]; exact hz) ?_
    exact ⟨.ref _, _, Id.laid (t' := s4.toks) (o := .tup xs.reverse) (fun b ob z => Heap.get?_push_of_some _ z) (Nat.le_refl _) ⟨by rw [List.length_reverse]; exact hz, _, r.reverse, IsTup.new _ _⟩, rfl, q _ (Id.hok.fresh (Nat.le_refl _))⟩
def revB : O1
  | .lst xs, _, P => P (.lst xs.reverse)
  | .tup xs, _, P => P (.tup xs.reverse)
  | _, _, _ => False
theorem ce_revB {X : Cx} {W : WX} {e : Expr} {ce : CEx} {pos : Pos} {k : Nat} {p1 p2 p3 : Pos} (h : CB X W e ce) : CE X W (.Subscript e (.Slice none none (some (.UnaryOp .USub (.Constant (.int 1) k p1) p2)) p3) pos) (cUn revB ce) :=
  ⟨pe_wk (pe_revB h.p) fun σ H Q ⟨en, sc, hc, m, E, P, r, k, xo, fin⟩ =>
    ⟨en, sc, hc, m, E, _, r, k, xo, fun d hc1 p v H1 m1 x1 q => by
      have q := q.w (r.call x1)
      cases d <;> try exact p.elim
      · unfold RepW Rep at q
        obtain ⟨a, vs, rfl, q1, rl⟩ := q
        exact ⟨a, rfl, .inr ⟨vs, q1, fun l n => fin _ hc1 p _ _ _ (x1.trans (.same x1.toWd (same_upd n))) (rep_tup x1.mu n rl.rev)⟩⟩
      · unfold RepW at q
        obtain ⟨a, vs, rfl, q1, rl⟩ := q
        exact ⟨a, rfl, .inl ⟨vs, .of q1, fun l n => fin _ hc1 p _ _ _ (x1.trans (.same x1.toWd (same_upd n))) (rep_lst x1.mu n rl.rev)⟩⟩⟩⟩
theorem o_revBL {xs : List D} {hc : CH} {P : D → Prop} : revB (.lst xs) hc P = P (.lst xs.reverse) := rfl
theorem o_revBT {xs : List D} {hc : CH} {P : D → Prop} : revB (.tup xs) hc P = P (.tup xs.reverse) := rfl
/-! ### texts of integers as values -/
theorem ofS_small (x : String) : ∀ c ∈ (Str.ofString x).cps.toList, c < 16 ^ 8 := fun c hc => by
  rw [Str.ofString_eq_toList] at hc
  simp at hc
  obtain ⟨a, _, rfl⟩ := hc
  have := a.val.toNat_lt
  show a.val.toNat < 16 ^ 8
  omega
theorem sh_txt {i : Int} {k : Nat} (h0 : 0 < k) (h : i.natAbs < 10 ^ k) : Sh 0 (10 * (k + 1) + 2) (.str (toString i)) := sh_str (by
  have e := int_text_length_le10 h0 h
  have l := StrLaws.reprText_len (Str.ofString (toString i)) (ofS_small _)
  rw [PySem.ofString_length] at l
  omega)
theorem sh_small {i : Int} {n c : Nat} (h : i.natAbs < 1000000000) (hc : 10 ≤ c := by decide) : Sh n c (.int i) := (sh_dig (k := 9) (by decide) (by
  have : (10 : Nat) ^ 9 = 1000000000 := by decide
  omega) (Nat.lt_of_lt_of_le h (by decide +kernel))).up (Nat.zero_le _) hc
theorem sh_stxt {i : Int} {n c : Nat} (h : i.natAbs < 1000000000) (hc : 102 ≤ c := by decide) : Sh n c (.str (toString i)) := (sh_txt (k := 9) (by decide) (by
  have : (10 : Nat) ^ 9 = 1000000000 := by decide
  omega)).up (Nat.zero_le _) hc
/-- x = e: what follows the value is a letter -/
theorem asg_step {ce : CEx} {i : Nat} {C : CEnds} {sc : List Sl} {hc : CH} (h : ∀ L : D → CH → Prop, (∀ d hc', C.nx (sc.set i (.val d)) hc' → L d hc') → ce C.xp sc hc L) : cAsg ce (gN i) C sc hc :=
  h (fun d hc' => C.nx (sc.set i (.val d)) hc') fun _ _ z => z
/-! ### x[e] = v, x an owned list -/
def gSubO (i : Nat) (ci : CEx) : CGx := fun E d sc hc P => match lookO sc i with
  | some ds => ci E sc hc fun y hc1 => match y with
    | .int k => oth (ixN ds.length k) fun j => P (sc.set i (.own (ds.set j d))) hc1
    | _ => False
  | none => False
theorem cg_sO {X : Cx} {W : WX} {x : Str} {px pos : Pos} {ie : Expr} {ci : CEx} (i : Nat) (hi : CE X W ie ci) (hN : X.N[i]? = some x := by rfl) (hv : Vis X.env.scope x := by first | exact Or.inl rfl | exact Or.inr (Or.inl rfl) | exact Or.inr (Or.inr rfl)) (hd : (x == ("__debug__" : Str)) = false := by decide) (hcd : (x == ("__classdict__" : Str)) = false := by decide)
    (ha : ∀ v, assign (.Subscript (.Name x px) ie pos) X.env v = (do
      let ov ← holding [v] (eval (.Name x px) X.env)
      let iv ← holding [v, ov] (eval ie X.env)
      standAt pos
      holding [v, ov, iv] (setItem ov iv v)
      release [v, ov, iv] []) := by intro _; rfl) : CG X W (.Subscript (.Name x px) ie pos) (gSubO i ci) :=
  ⟨pg_wk (pg_sub (pv i hN hv hd hcd) hi.p set_list ha) fun v σ H Q ⟨en, sc, hc, m, E, d, P, r, q, k, xo, f⟩ => by
    unfold gSubO at k
    split at k
    case h_2 => exact k.elim
    rename_i ds e0
    have e' := lookO_get e0
    obtain ⟨p, vs, e1, ma, h0, h1, eH, q1⟩ := r.own i ds e'
    refine ⟨.ref p, e1, en, sc, hc, m, E, _, r, k, xo, fun y hc1 k2 v2 H1 m1 x1 q2 => ?_⟩
    cases y <;> try exact k2.elim
    obtain ⟨j, ej, k3⟩ := oth_of k2
    unfold Rep at q2
    subst q2
    have r1 := r.call x1
    have s1 := x1.stp
    obtain ⟨p2, vs2, e2, _, _, _, eH2, qq⟩ := r1.own i ds e'
    rw [e1] at e2; cases e2
    have qd := Rep.mono r.mu s1 _ _ q
    obtain ⟨r2, s2⟩ := r1.grown e' e1 (RepL.set qd j qq)
    exact ⟨p, vs2, _, j, rfl, rfl, eH2, by rw [← qq.length]; exact ej, f _ _ k3 _ _ m1 r2 (s1.trans s2)⟩⟩
theorem e_gSubO {i : Nat} {ci : CEx} {E : XP} {d : D} {sc : List Sl} {hc : CH} {P : List Sl → CH → Prop} : gSubO i ci E d sc hc P = match lookO sc i with
  | some ds => ci E sc hc fun y hc1 => match y with
    | .int k => oth (ixN ds.length k) fun j => P (sc.set i (.own (ds.set j d))) hc1
    | _ => False
  | none => False := rfl
/-! ### a call without arguments -/
theorem ce_f0 {X : Cx} {W : WX} {x : Str} {p pos : Pos} {k l : Nat} {sp : Spc} (F : FnAt X.prog X.w X.K X.mg X.base k x [] sp) (hr : RG l X.A) (hl : k ≤ l := by decide)
    (hg : Gl X x := by rfl) (hdb : (x == ("__debug__" : Str)) = false := by decide) : CE X W (.Call (.Name x p) [] [] pos) (cCall sp cNil) := by
  obtain ⟨f, fd, F1, hm, hk, hb, _⟩ := F
  exact ⟨pe_wk (pe_callG0 F1 (hr.mono hl) hg hm hk hb .nil pass0 hdb) fun σ H Q ⟨en, sc, hc, m, E, P, r, k, xo, fin⟩ =>
    ⟨hc, m, [], P, _, r.toWd, RepL.nil, k, fun d hc' pd v H' m' x q => fin d hc' pd v H' m' x q, fun _ _ z => z.elim⟩⟩
/-! ### repr of a value, of a list that is changed -/
def dref (hc : CH) : D → Option D
  | .ref a => (hc a).map D.lst
  | d => some d
def reprRD : On := fun ds hc P => match ds with
  | [d] => oth (dref hc d) fun e => ShOk e ∧ P (.str (shw e))
  | _ => False
theorem bf_reprR {X : Cx} {k : Nat} (g : RG k X.A) (st : statK X.K = true) : CallR X (.builtin "repr") (LVn X.K reprRD) := by
  intro pins s σ H xs us Q I r h
  obtain ⟨hc', m, ds, P, w, h1, f, fin⟩ := h
  unfold reprRD at f
  split at f
  · rename_i d
    obtain ⟨e, he, f⟩ := oth_of f
    obtain ⟨v, rfl, k1⟩ := wl1 h1
    have k2 : RepW X.K H m e v := by
      cases d <;> try (have he : some _ = some e := he; cases he; exact k1)
      rename_i a
      unfold RepW Rep at k1
      subst k1
      have he : (hc' a).map D.lst = some e := he
      cases q : hc' a with
      | none => rw [q] at he; cases he
      | some zs =>
        rw [q] at he; cases he
        obtain ⟨vs, e1, rl⟩ := w.heap _ _ q
        unfold RepW
        exact ⟨a, vs, rfl, e1, rl⟩
    exact bf_repr g st pins s σ H _ us Q I r ⟨hc', m, [e], P, w, Paired.cons k2 .nil, f, fin⟩
  · exact f.elim
theorem o_reprR {d : D} {hc : CH} {P : D → Prop} : reprRD [d] hc P = oth (dref hc d) fun e => ShOk e ∧ P (.str (shw e)) := rfl
theorem o_tupR {a : Addr} {hc : CH} {P : D → Prop} : tupleFD [.ref a] hc P = oth (hc a) fun xs => P (.tup xs) := rfl
theorem e_LstM {c : CAx} {E : XP} {sc : List Sl} {hc : CH} {P : D → CH → Prop} : cLstM c E sc hc P = c E sc hc fun ds hc1 => ds.length ≤ sizeLine ∧ ∀ p, hc1 p = none → P (.ref p) (updc hc1 p ds) := rfl
theorem e_gSub {co ci : CEx} {E : XP} {d : D} {sc : List Sl} {hc : CH} {P : List Sl → CH → Prop} : gSub' co ci E d sc hc P = co E sc hc fun o hc1 => ci E sc hc1 fun i hc2 => match o, i with
  | .ref a, .int k => oth (hc2 a) fun ds => oth (ixN ds.length k) fun j => P sc (updc hc2 a (ds.set j d))
  | _, _ => False := rfl
theorem o_mulT {xs : List D} {i : Int} {hc : CH} {P : D → Prop} : mulD (.tup xs) (.int i) hc P = ((xs ≠ [] ∧ 2 ≤ i ∧ i ≤ 1000 ∧ xs.length ≤ 1000) ∧ P (.tup (List.replicate i.toNat xs).flatten)) := rfl
theorem o_slR {a : Addr} {lo hi : Option Int} {hc : CH} {P : D → Prop} : slD (.ref a) lo hi hc P = oth (hc a) fun xs => P (.lst (cutX xs lo hi)) := rfl
end Mn

namespace Mn
open PySem PySem.Spec PyProof.Rows L2
/-! ### tuples of constants at the module's top -/
/-- what the tuple at a has at place i, if it is an object -/
def itemAt (K : PySem.W.Frag) (a : Addr) (i : Nat) : Addr := match K.lookup a with
  | some ⟨_, _, .seq its _, _⟩ => (match its.toList[i]? with
    | some (.ref p) => p
    | _ => 0)
  | _ => 0
def constV (K : PySem.W.Frag) (a : Addr) (i : Nat) : D → V
  | .int i => .int i
  | .str s => .str s
  | .bl b => .bl b
  | .tup _ => .ref (itemAt K a i)
  | _ => .non
def constVs (K : PySem.W.Frag) (a : Addr) : Nat → List D → List V
  | _, [] => []
  | i, d :: ds => constV K a i d :: constVs K a (i + 1) ds
/-- is there a tuple of these at a? -/
def tupAt (K : PySem.W.Frag) (a : Addr) (vs : List V) : Bool := match K.lookup a with
  | some ⟨.type c, _, .seq its _, _⟩ => decide (c = "tuple") && (decide (its.size ≤ sizeLine) && He.relAll vs its.toList)
  | _ => false
mutual
/-- what stands below is as told -/
def deepB (K : PySem.W.Frag) (a : Addr) (i : Nat) : D → Bool
  | .int _ => true
  | .str _ => true
  | .bl _ => true
  | .non => true
  | .tup xs => tupAt K (itemAt K a i) (constVs K (itemAt K a i) 0 xs) && deepBs K (itemAt K a i) 0 xs
  | _ => false
def deepBs (K : PySem.W.Frag) (a : Addr) (i : Nat) : List D → Bool
  | [] => true
  | d :: ds => deepB K a i d && deepBs K a (i + 1) ds
end
def tupN (K : PySem.W.Frag) (x : Str) (ds : List D) : Bool := tupAt K (He.ga K x) (constVs K (He.ga K x) 0 ds) && deepBs K (He.ga K x) 0 ds
theorem tupAt_ok {K : PySem.W.Frag} {a : Addr} {vs : List V} (h : tupAt K a vs = true) (H : Hp) : SqT K H a vs := by
  unfold tupAt at h
  split at h
  · next c d its n osl q =>
    rw [Bool.and_eq_true, Bool.and_eq_true, decide_eq_true_iff, decide_eq_true_iff] at h
    exact .inr ⟨_, its, n, q, congrArg Value.type h.1, rfl, h.2.1, He.relAll_ok h.2.2⟩
  · cases h
mutual
theorem deepB_ok {K : PySem.W.Frag} {H : Hp} {m : Ms} {a : Addr} {i : Nat} : ∀ d : D, deepB K a i d = true → Rep K H m d (constV K a i d)
  | .int _, _ => by unfold Rep; rfl
  | .str _, _ => by unfold Rep; rfl
  | .bl _, _ => by unfold Rep; rfl
  | .non, _ => by unfold Rep; rfl
  | .tup xs, h => by
    unfold deepB at h
    rw [Bool.and_eq_true] at h
    unfold Rep
    exact ⟨_, _, rfl, tupAt_ok h.1 H, deepBs_ok xs h.2⟩
  | .lst _, h => by unfold deepB at h; cases h
  | .ref _, h => by unfold deepB at h; cases h
  | .dct _ _, h => by unfold deepB at h; cases h
  | .frz _, h => by unfold deepB at h; cases h
theorem deepBs_ok {K : PySem.W.Frag} {H : Hp} {m : Ms} {a : Addr} {i : Nat} : ∀ ds : List D, deepBs K a i ds = true → RepL K H m ds (constVs K a i ds)
  | [], _ => by unfold RepL; rfl
  | d :: ds, h => by
    unfold deepBs at h
    rw [Bool.and_eq_true] at h
    unfold RepL
    exact ⟨_, _, rfl, deepB_ok d h.1, deepBs_ok ds h.2⟩
end
theorem GlobC.tup {K : PySem.W.Frag} {mg : Str → Option Value} {x : Str} {ds : List D} (h : mg x = some (.ref (He.ga K x))) (t : tupN K x ds = true) (_ : ds.length = ds.length) : GlobC K mg x (.tup ds) := by
  unfold tupN at t
  rw [Bool.and_eq_true] at t
  refine ⟨.ref (He.ga K x), .ref (He.ga K x), h, rfl, fun H m => ?_⟩
  unfold Rep
  exact ⟨_, _, rfl, tupAt_ok t.1 H, deepBs_ok ds t.2⟩
/-! ### the hook with such tuples -/
abbrev TupC := List (Str × List D)
def obsU (fa : List He.Fa) (fn : List He.DefD) (tc : TupC) (K : PySem.W.Frag) : He.AlD × Bool := (He.obsD fa fn K, statK K && tc.all fun t => tupN K t.1 t.2)
def SaysU (fa : List He.Fa) (fn : List He.DefD) (tc : TupC) (K : PySem.W.Frag) : Prop := obsU fa fn tc K = (He.valD fn, true)
def obsUG (n : Nat) (fa : List He.Fa) (fn : List He.DefD) (tc : TupC) (g : Addr → Option Obj) : He.AlD × Bool := obsU fa fn tc (He.frG g (He.asD g n ++ [sysModules, cStatics]))
def hookU (n : Nat) (fa : List He.Fa) (fn : List He.DefD) (tc : TupC) : PySem.W.Hook where
  α := He.AlD × Bool
  obs := fun s => obsUG n fa fn tc s.heap.get?
  val := fun _ => (He.valD fn, true)
  says := fun _ h => ∃ K : PySem.W.Frag, K.In h ∧ SaysU fa fn tc K
  of := fun _ _ e => ⟨_, He.frG_in, e⟩
  keeps := fun _ _ _ ⟨K, hK, c⟩ k => ⟨K, PySem.W.Frag.In.keeps hK k, c⟩
theorem obsUG_eq {n : Nat} {fa : List He.Fa} {fn : List He.DefD} {tc : TupC} {g : Addr → Option Obj} {s : Shared} (h : ∀ a, g a = s.heap.get? a) : obsUG n fa fn tc g = (hookU n fa fn tc).obs s := by
  have e : g = s.heap.get? := funext h
  subst e
  rfl
theorem SaysU.d {fa : List He.Fa} {fn : List He.DefD} {tc : TupC} {K : PySem.W.Frag} (c : SaysU fa fn tc K) : He.SaysD fa fn K := congrArg (fun z : He.AlD × Bool => z.1) c
theorem SaysU.two {fa : List He.Fa} {fn : List He.DefD} {tc : TupC} {K : PySem.W.Frag} (c : SaysU fa fn tc K) : statK K = true ∧ (tc.all fun t => tupN K t.1 t.2) = true := by
  have h : (statK K && tc.all fun t => tupN K t.1 t.2) = true := congrArg (fun z : He.AlD × Bool => z.2) c
  rwa [Bool.and_eq_true] at h
theorem SaysU.s {fa : List He.Fa} {fn : List He.DefD} {tc : TupC} {K : PySem.W.Frag} (c : SaysU fa fn tc K) : statK K = true := c.two.1
theorem SaysU.t {fa : List He.Fa} {fn : List He.DefD} {tc : TupC} {K : PySem.W.Frag} (c : SaysU fa fn tc K) (i : Nat) {x : Str} {ds : List D} (h : tc[i]? = some (x, ds) := by rfl) : tupN K x ds = true :=
  List.all_eq_true.mp c.two.2 (x, ds) (List.mem_of_getElem? h)
end Mn

namespace Mn
open PySem PySem.Spec PyProof.Rows L2
/-! ### match upon a text: cases are texts, the last one may be anything -/
abbrev Arm := Option Str × CSx
def cArms : List Arm → Str → CSx
  | [], _ => cNext
  | (some z, c) :: r, x => fun C sc hc => if x = z then c C sc hc else cArms r x C sc hc
  | (none, c) :: _, _ => c
def cMatch (ce : CEx) (as : List Arm) : CSx := fun C sc hc => ce C.xp sc hc fun d hc1 => match d with
  | .str x => cArms as x C sc hc1
  | _ => False
inductive Arms (X : Cx) (W : WX) : List MatchCase → List Arm → Prop where
  | nil : Arms X W [] []
  | val {x : Str} {j : Nat} {p1 p2 : Pos} {body : List Stmt} {c : CSx} {r : List MatchCase} {rs : List Arm} (h : CSs X W body c) (hr : Arms X W r rs) : Arms X W (⟨.MatchValue (.Constant (.str x) j p1) p2, none, body⟩ :: r) ((some x, c) :: rs)
  | any {p : Pos} {body : List Stmt} {c : CSx} {r : List MatchCase} {rs : List Arm} (h : CSs X W body c) (hr : Arms X W r rs) : Arms X W (⟨.MatchAs none none p, none, body⟩ :: r) ((none, c) :: rs)
theorem arms_run {X : Cx} {W : WX} {cases : List MatchCase} {as : List Arm} (h : Arms X W cases as) : ∀ (pins : List (Addr × Obj)) (s : Shared) (σ : L2.St) (H : Hp) (D : Ends) (x : Str) (u : Value) (first : Bool), Inv X pins σ H s → RelV (.str x) u → LS X W (cArms as x) D σ H →
    wpAny (model X.prog X.w) X.A (matchCases cases X.env u first) (SP X pins D) X.xe s := by
  induction h with
  | nil =>
    intro pins s σ H D x u first I rx ⟨en, sc, hc, m, C, r, k, f⟩
    exact wpAny_matchCases_nil ⟨σ, H, I, f.nx sc hc k σ H m r .refl⟩
  | @val z j p1 p2 body c r rs h hr ih =>
    intro pins s σ H D x u first I rx ⟨en, sc, hc, m, C, rr, k, f⟩
    refine wpAny_matchCases_cons (wpAny_matchPattern_Value (thn ((pe_str (X := X) (x := z) (j := j) (pos := p1)).run pins s σ H (fun v H' => v = .str z ∧ H' = H) I ⟨rfl, rfl⟩) fun y s1 ⟨v, H1, I1, rv, e1, e2⟩ => ?_))
    subst e1
    subst e2
    refine thn (op_eq pins s1 σ H1 (.str x) (.str z) u y (fun v H' => v = .bl (decide (V.str x = V.str z)) ∧ H' = H1) I1 rx rv ⟨rfl, rfl, rfl⟩) fun w s2 ⟨v2, H2, I2, rv2, e1, e2⟩ => ?_
    subst e2
    subst e1
    cases (show w = Value.bool (decide (V.str x = V.str z)) from rv2)
    refine wpAny_truthy_bool ?_
    have k : (if x = z then c C sc hc else cArms rs x C sc hc) := k
    by_cases e : x = z
    · rw [if_pos e] at k
      rw [if_pos (by rw [e]; exact decide_eq_true rfl)]
      exact wpAny_assignInOrder_none (h.p.run pins s2 σ H2 D I2 ⟨en, sc, hc, m, C, rr, k, f⟩)
    · rw [if_neg e] at k
      rw [if_neg (by rw [decide_eq_true_iff]; intro q; exact e (by cases q; rfl))]
      exact ih pins s2 σ H2 D x u false I2 rx ⟨en, sc, hc, m, C, rr, k, f⟩
  | @any p body c r rs h hr ih =>
    intro pins s σ H D x u first I rx q
    exact wpAny_matchCases_cons (wpAny_matchPattern_Capture (wpAny_assignInOrder_none (h.p.run pins s σ H D I q)))
theorem cs_match {X : Cx} {W : WX} {e : Expr} {ce : CEx} {cases : List MatchCase} {as : List Arm} {pos : Pos} (h : CE X W e ce) (ha : Arms X W cases as) : CS X W (.Match e cases pos) (cMatch ce as) := by
  refine ⟨⟨fun pins s σ H D I ⟨en, sc, hc, m, C, r, k, f⟩ => ?_⟩⟩
  refine wpAny_Match (thn (h.p.run pins s σ H (fun v H1 => ∃ x, v = .str x ∧ LS X W (cArms as x) D σ H1) I ⟨en, sc, hc, m, C.xp, _, r, k, f.xp, fun d hc1 hp v H1 m1 x1 q1 => ?_⟩) fun u s1 ⟨v, H1, I1, rv, x, e1, q⟩ => ?_)
  · cases d <;> try exact hp.elim
    rename_i x
    unfold Rep at q1
    exact ⟨x, q1, en, sc, hc1, m1, C, r.call x1, hp, f.step x1.stp⟩
  · subst e1
    exact arms_run ha pins s1 σ H1 D x u true I1 rv q
section
variable {C : CEnds} {sc : List Sl} {hc : CH} {x z : Str} {c : CSx} {r : List Arm} {ce : CEx}
theorem e_Match {as : List Arm} : cMatch ce as C sc hc = ce C.xp sc hc fun d hc1 => match d with
  | .str x => cArms as x C sc hc1
  | _ => False := rfl
theorem e_arm1 : cArms ((some z, c) :: r) x C sc hc = if x = z then c C sc hc else cArms r x C sc hc := rfl
theorem e_arm2 : cArms ((none, c) :: r) x C sc hc = c C sc hc := rfl
theorem e_arm0 : cArms [] x C sc hc = C.nx sc hc := rfl
end
/-! ### zip of two lists -/
def zipD (xs ys : List D) : List D := List.zipWith (fun x y => D.tup [x, y]) xs ys
def zipP (ds : List D) (P : List D → CH → Prop) (hc : CH) : Prop := match ds with
  | [.lst xs, .lst ys] => P (zipD xs ys) hc
  | _ => False
def cZip (c1 c2 : CEx) : CIx := fun E sc hc P => cCons c1 (cCons c2 cNil) E sc hc fun ds hc1 => zipP ds P hc1
theorem ci_zip {X : Cx} {W : WX} {elts : List Expr} {kk : Nat} {tpos p pos : Pos} {e e2 : Expr} {c1 c2 : CEx} (hm : X.mg "zip" = none) (h1 : CE X W e c1) (h2 : CE X W e2 c2) (hg : Gl X "zip" := by rfl) (hs : starEach [e, e2] X.env = (false, eval e X.env) :: starEach [e2] X.env := by rfl) (hs2 : starEach [e2] X.env = (false, eval e2 X.env) :: starEach [] X.env := by rfl) (hpl : (backTo pos (starEach [e2] X.env)).any (·.1) = false := by rfl) :
    CI X W (.Tuple elts kk tpos) (.Call (.Name "zip" p) [e, e2] [] pos) (cZip c1 c2) := ⟨pi_wk (pi_zip hg hm (ca_cons h1 (ca_cons h2 ca_nil hs2) hs).p hs hpl) fun σ H R ⟨en, sc, hc, m, E, P, r, k, xo, fin⟩ =>
  ⟨en, sc, hc, m, E, fun ds hc1 => zipP ds P hc1, r, k, xo, fun ds hc1 pz vs H1 m1 x1 q => by
    have mu1 := (r.call x1).mu
    have pz : zipP ds P hc1 := pz
    unfold zipP at pz
    split at pz
    · rename_i xs ys _
      unfold RepL at q
      obtain ⟨v1, r1, rfl, qa, q⟩ := q
      unfold RepL at q
      obtain ⟨v2, r2, rfl, qb, q⟩ := q
      unfold RepL at q
      subst q
      unfold Rep at qa qb
      obtain ⟨a, us, rfl, na, ha, la⟩ := qa
      obtain ⟨b, ws, rfl, nb, hb, lb⟩ := qb
      refine ⟨a, b, us, ws, rfl, .of ha, .of hb, fin _ hc1 pz _ H1 m1 x1 fun H2 m2 mo s2 i => ⟨fun d ed => ?_, fun hl => ?_⟩⟩
      · unfold zipD at ed
        rw [List.getElem?_zipWith] at ed
        cases ex : xs[i]? with
        | none => rw [ex] at ed; cases ed
        | some x =>
          cases ey : ys[i]? with
          | none => rw [ex, ey] at ed; cases ed
          | some y =>
            rw [ex, ey] at ed
            cases ed
            obtain ⟨u, eu, ru⟩ := la.get ex
            obtain ⟨w, ew, rw'⟩ := lb.get ey
            have hqa := SqL.of (K := X.K) (s2.keep _ _ ha na)
            have hqb := SqL.of (K := X.K) (s2.keep _ _ hb nb)
            refine ⟨⟨us, ws, u, w, hqa, hqb, eu, ew⟩, fun x3 H3 ⟨T, u', w', e3, nT, eH, g1, g2⟩ => ?_⟩
            have t1 := g1 us hqa
            have t2 := g2 ws hqb
            rw [eu] at t1; cases t1
            rw [ew] at t2; cases t2
            subst e3
            subst eH
            exact ⟨same_upd nT, rep_tup mo nT (RepL.cons (Rep.mono mu1 s2 _ _ ru) (RepL.cons (Rep.mono mu1 s2 _ _ rw') RepL.nil))⟩
      · refine ⟨us, ws, .of (s2.keep _ _ ha na), .of (s2.keep _ _ hb nb), ?_⟩
        rw [← la.length, ← lb.length]
        unfold zipD at hl
        rw [List.length_zipWith] at hl
        omega
    · exact pz.elim⟩⟩
theorem e_Zip {c1 c2 : CEx} {E : XP} {sc : List Sl} {hc : CH} {P : List D → CH → Prop} : cZip c1 c2 E sc hc P = cCons c1 (cCons c2 cNil) E sc hc fun ds hc1 => zipP ds P hc1 := rfl
theorem o_zip {xs ys : List D} {hc : CH} {P : List D → CH → Prop} : zipP [.lst xs, .lst ys] P hc = P (zipD xs ys) hc := rfl
theorem zip_mem {xs ys : List D} {d : D} (h : d ∈ zipD xs ys) : ∃ x ∈ xs, ∃ y ∈ ys, d = .tup [x, y] := by
  obtain ⟨i, ed⟩ := List.mem_iff_getElem?.mp h
  unfold zipD at ed
  rw [List.getElem?_zipWith] at ed
  cases ex : xs[i]? with
  | none => rw [ex] at ed; cases ed
  | some x =>
    cases ey : ys[i]? with
    | none => rw [ex, ey] at ed; cases ed
    | some y =>
      rw [ex, ey] at ed
      cases ed
      exact ⟨x, List.mem_of_getElem? ex, y, List.mem_of_getElem? ey, rfl⟩
/-- x.extend(e), x an owned list, e a list -/
def cExt (i : Nat) (ce : CEx) : CSx := fun C sc hc => match lookO sc i with
  | some ds => ce C.xp sc hc fun d hc1 => match d with
    | .lst zs => ds.length + zs.length ≤ sizeLine ∧ C.nx (sc.set i (.own (ds ++ zs))) hc1
    | _ => False
  | none => False
section
variable {X : Cx} {W : WX} {e : Expr} {ce : CEx} {pos : Pos}
theorem cs_ext {x : Str} {px pa : Pos} (i : Nat) (he : CE X W e ce) (hN : X.N[i]? = some x := by rfl) (hv : Vis X.env.scope x := by first | exact Or.inl rfl | exact Or.inr (Or.inl rfl) | exact Or.inr (Or.inr rfl)) (hd : (x == ("__debug__" : Str)) = false := by decide) (hcd : (x == ("__classdict__" : Str)) = false := by decide)
    (hs : starEach [e] X.env = (false, eval e X.env) :: starEach [] X.env := by rfl)
    (hb : attributeBase (.Name x px) "extend" X.env (eval (.Name x px) X.env) = eval (.Name x px) X.env := by rfl) {pc : Pos}
    (hfew : ((backTo pc (starEach [e] X.env)).all (fun x => !x.1) && (backToKw pc (keywordEach [] X.env)).all (fun x => x.1.isSome)
      && decide ([e].length + ([] : List Keyword).length + (if ([] : List Keyword).isEmpty then 0 else 1) < 30)) = true := by rfl)
    (hl : (pa.endLine == pc.line) = true := by rfl)
    (hsw : swapsWith (.Call (.Attribute (.Name x px) "extend" pa) [e] [] pc) none pos.line X.env = pure false := by rfl) : CS X W (.Expr (.Call (.Attribute (.Name x px) "extend" pa) [e] [] pc) pos) (cExt i ce) :=
  ⟨ps_wk (ps_expr (pe_bm PySem.F.plainAttrs_list PySem.F.slot_list_extend PySem.F.type_list_extend mt_extend (pv i hN hv hd hcd) (pa_cons he.p pa_nil hs) hb hfew hl hs) hsw) fun D σ H ⟨en, sc, hc, m, C, r, k, f⟩ => by
    unfold cExt at k
    split at k
    case h_2 => exact k.elim
    rename_i ds e0
    have e' := lookO_get e0
    obtain ⟨p, vs, e1, ma, h0, h1, eH, q1⟩ := r.own i ds e'
    refine ⟨.ref p, e1, .inl ⟨rfl, vs, .of eH⟩, en, sc, hc, m, C.xp, _, r, k, f.xp, fun d hc1 pp v H1 m1 x1 q => ?_⟩
    have r1 := r.call x1
    have s1 := x1.stp
    cases d <;> try exact pp.elim
    rename_i zs
    have pp : ds.length + zs.length ≤ sizeLine ∧ C.nx (sc.set i (.own (ds ++ zs))) hc1 := pp
    unfold Rep at q
    obtain ⟨b, ws, rfl, nb, eb, lb⟩ := q
    obtain ⟨p2, vs2, e2, _, _, _, eH2, q2⟩ := r1.own i ds e'
    rw [e1] at e2; cases e2
    obtain ⟨r2, s2⟩ := r1.grown e' e1 (q2.append lb)
    exact ⟨p, b, vs2, ws, rfl, rfl, eH2, eb, by rw [← q2.length, ← lb.length]; exact pp.1, f.nx _ hc1 pp.2 _ _ m1 r2 (s1.trans s2)⟩⟩
end
theorem e_Ext {i : Nat} {ce : CEx} {C : CEnds} {sc : List Sl} {hc : CH} : cExt i ce C sc hc = match lookO sc i with
  | some ds => ce C.xp sc hc fun d hc1 => match d with
    | .lst zs => ds.length + zs.length ≤ sizeLine ∧ C.nx (sc.set i (.own (ds ++ zs))) hc1
    | _ => False
  | none => False := rfl
/-- x, y = e, [..], y's list its own -/
def cParO2 (i j : Nat) (ca : CEx) (cb : CAx) : CSx := fun C sc hc => ca C.xp sc hc fun d hc1 => cb C.xp sc hc1 fun ds hc2 => ds.length ≤ sizeLine ∧ C.nx ((sc.set i (.val d)).set j (.own ds)) hc2
section
variable {X : Cx} {W : WX} {ca : CEx} {cb : CAx} {pos : Pos}
theorem cs_parO2 {i j : Nat} {x y : Str} {a : Expr} {es : List Expr} {px py pt p3 : Pos} {kt k2 : Nat} {p2 : Pos} (hc : X.calm = true) (hN : X.N.Nodup) (ha : CE X W a ca) (hb : CA X W es cb) (hw : swappedStores [.Tuple [.Name x px, .Name y py] kt pt] (.Tuple [a, .List es p3] k2 p2) X.env = pure (some [x, y]) := by rfl) (hi : X.N[i]? = some x := by rfl) (hj : X.N[j]? = some y := by rfl) (hij : i ≠ j := by decide)
    (hx : X.env.scope.names.lookup x = some .local := by rfl) (hy : X.env.scope.names.lookup y = some .local := by rfl)
    (hs : swapsWithSole [.Tuple [.Name x px, .Name y py] kt pt] (.Tuple [a, .List es p3] k2 p2) pos.line X.env = pure false := by rfl)
    (h1 : starEach [a, .List es p3] X.env = (false, eval a X.env) :: starEach [.List es p3] X.env := by rfl) (h2 : starEach [.List es p3] X.env = (false, eval (.List es p3) X.env) :: starEach [] X.env := by rfl) : CS X W (.Assign [.Tuple [.Name x px, .Name y py] kt pt] (.Tuple [a, .List es p3] k2 p2) pos) (cParO2 i j ca cb) :=
  ⟨ps_wk (ps_par hc hN hi hj hij hx hy (pa_cons ha.p (pa_cons (pe_lst hb.p) pa_nil h2) h1) hw hs) fun D σ H ⟨en, sc, hc, m, C, r, k, f⟩ =>
    ⟨en, sc, hc, m, C.xp, _, r, k, f.xp, fun d hc1 p v H1 m1 x1 q1 => ⟨en, sc, hc1, m1, C.xp, _, r.call x1, p, f.xp, fun ds hc2 p2 vs H2 m2 x2 q2 => ⟨by rw [← q2.length]; exact p2.1, fun a n => by
      have r2 := (r.call x1).call x2
      obtain ⟨m3, r3, s3⟩ := (r2.put i (Rep.mono (r.call x1).mu x2.stp _ _ q1)).mine j n q2
      exact ⟨v, .ref a, rfl, f.nx _ hc2 p2.2 _ _ m3 r3 ((x1.stp.trans x2.stp).trans s3)⟩⟩⟩⟩⟩
end
theorem e_ParO2 {i j : Nat} {ca : CEx} {cb : CAx} {C : CEnds} {sc : List Sl} {hc : CH} : cParO2 i j ca cb C sc hc = ca C.xp sc hc fun d hc1 => cb C.xp sc hc1 fun ds hc2 => ds.length ≤ sizeLine ∧ C.nx ((sc.set i (.val d)).set j (.own ds)) hc2 := rfl
/-! ### list(range(..)) -/
def cLRg1 (ca : CEx) : CEx := fun E sc hc P => ca E sc hc fun d hc1 => match d with
  | .int n => (-(2 ^ 62) ≤ n ∧ n ≤ 16777216) ∧ P (.lst (rngD 0 n)) hc1
  | _ => False
def cLRg2 (ca cb : CEx) : CEx := fun E sc hc P => ca E sc hc fun d hc1 => cb E sc hc1 fun d2 hc2 => match d, d2 with
  | .int a, .int b => (-16777216 ≤ a ∧ a ≤ 16777216 ∧ -16777216 ≤ b ∧ b ≤ 16777216 ∧ b - a ≤ 16777216) ∧ P (.lst (rngD a b)) hc2
  | _, _ => False
theorem repL_rng {K : PySem.W.Frag} {H : Hp} {m : Ms} {a : Int} : ∀ l : List Nat, RepL K H m (l.map fun k => D.int (a + (k : Nat))) (l.map fun k => V.int (a + (k : Nat)))
  | [] => RepL.nil
  | x :: l => RepL.cons rep_int (repL_rng l)
section
variable {X : Cx} {W : WX} {e e2 : Expr} {ca cb : CEx} {p p2 pos pos2 : Pos}
theorem ce_lrg1 (hc : X.calm = true) (hl : X.mg "list" = none) (hr : X.mg "range" = none) (h : CE X W e ca) (hg : Gl X "list" := by rfl) (hg2 : Gl X "range" := by rfl) (na : starEach [e] X.env = (false, eval e X.env) :: starEach [] X.env := by rfl)
    (nb : starEach [.Call (.Name "range" p2) [e] [] pos2] X.env = (false, eval (.Call (.Name "range" p2) [e] [] pos2) X.env) :: starEach [] X.env := by rfl) : CE X W (.Call (.Name "list" p) [.Call (.Name "range" p2) [e] [] pos2] [] pos) (cLRg1 ca) :=
  ⟨pe_wk (pe_listRg hc hg hl (prg_1 hg2 hr h.p na) nb) fun σ H Q ⟨en, sc, hc, m, E, P, r, k, xo, fin⟩ =>
    ⟨en, sc, hc, m, E, _, r, k, xo, fun d hc1 pp v H1 m1 x1 q => by
      cases d <;> try exact pp.elim
      rename_i n
      unfold Rep at q
      have pp : (-(2 ^ 62) ≤ n ∧ n ≤ 16777216) ∧ P (.lst (rngD 0 n)) hc1 := pp
      exact ⟨n, q, ⟨by decide, by decide, pp.1.1, by omega, by omega⟩, fun a na => fin _ hc1 pp.2 _ _ m1 (x1.trans (Ex.same x1.toWd (same_upd na))) (rep_lst (r.call x1).mu na (repL_rng _))⟩⟩⟩
theorem ce_lrg2 (hc : X.calm = true) (hl : X.mg "list" = none) (hr : X.mg "range" = none) (h : CE X W e ca) (h2 : CE X W e2 cb) (hg : Gl X "list" := by rfl) (hg2 : Gl X "range" := by rfl) (na : starEach [e, e2] X.env = (false, eval e X.env) :: starEach [e2] X.env := by rfl) (nb : starEach [e2] X.env = (false, eval e2 X.env) :: starEach [] X.env := by rfl)
    (hp : (backTo pos2 (starEach [e2] X.env)).any (·.1) = false := by rfl) (nc : starEach [.Call (.Name "range" p2) [e, e2] [] pos2] X.env = (false, eval (.Call (.Name "range" p2) [e, e2] [] pos2) X.env) :: starEach [] X.env := by rfl) : CE X W (.Call (.Name "list" p) [.Call (.Name "range" p2) [e, e2] [] pos2] [] pos) (cLRg2 ca cb) :=
  ⟨pe_wk (pe_listRg hc hg hl (prg_2 hg2 hr h.p h2.p na nb hp) nc) fun σ H Q ⟨en, sc, hc, m, E, P, r, k, xo, fin⟩ =>
    ⟨en, sc, hc, m, E, _, r, k, xo, fun d hc1 pp v H1 m1 x1 q => ⟨en, sc, hc1, m1, E, _, r.call x1, pp, xo, fun d2 hc2 pp v2 H2 m2 x2 q2 => by
      cases d <;> cases d2 <;> try exact pp.elim
      rename_i a _ b
      unfold Rep at q q2
      have pp : (-16777216 ≤ a ∧ a ≤ 16777216 ∧ -16777216 ≤ b ∧ b ≤ 16777216 ∧ b - a ≤ 16777216) ∧ P (.lst (rngD a b)) hc2 := pp
      have x12 := x1.trans x2
      exact ⟨a, b, q, q2, ⟨by omega, by omega, by omega, by omega, by omega⟩, fun c na => fin _ hc2 pp.2 _ _ m2 (x12.trans (Ex.same x12.toWd (same_upd na))) (rep_lst ((r.call x1).call x2).mu na (repL_rng _))⟩⟩⟩⟩
end
theorem e_LRg1 {ca : CEx} {E : XP} {sc : List Sl} {hc : CH} {P : D → CH → Prop} : cLRg1 ca E sc hc P = ca E sc hc fun d hc1 => match d with
  | .int n => (-(2 ^ 62) ≤ n ∧ n ≤ 16777216) ∧ P (.lst (rngD 0 n)) hc1
  | _ => False := rfl
theorem e_LRg2 {ca cb : CEx} {E : XP} {sc : List Sl} {hc : CH} {P : D → CH → Prop} : cLRg2 ca cb E sc hc P = ca E sc hc fun d hc1 => cb E sc hc1 fun d2 hc2 => match d, d2 with
  | .int a, .int b => (-16777216 ≤ a ∧ a ≤ 16777216 ∧ -16777216 ≤ b ∧ b ≤ 16777216 ∧ b - a ≤ 16777216) ∧ P (.lst (rngD a b)) hc2
  | _, _ => False := rfl
/-- the lowest bit set -/
theorem or_one (x : Int) : Builtin.bitOr x 1 = x + 1 - x % 2 := by rw [bitOr_and, bitAnd_m1]
end Mn

namespace Mn
open PySem PySem.Spec PyProof.Rows L2
/-! ### rstrip -/
def cRs (ca cb : CEx) : CEx := fun E sc hc P => ca E sc hc fun d hc1 => match d with
  | .str a => cb E sc hc1 fun d2 hc2 => match d2 with
    | .str b => a.length ≤ sizeLine ∧ P (.str (Txt.rstripChars a b)) hc2
    | _ => False
  | _ => False
section
variable {X : Cx} {W : WX} {e e2 : Expr} {ca cb : CEx} {apos pos : Pos}
theorem ce_rstrip (h : CE X W e ca) (h2 : CE X W e2 cb) (hs : starEach [e2] X.env = (false, eval e2 X.env) :: starEach [] X.env := by rfl)
    (hb : attributeBase e "rstrip" X.env (eval e X.env) = eval e X.env := by rfl)
    (hfew : ((backTo pos (starEach [e2] X.env)).all (fun x => !x.1) && (backToKw pos (keywordEach [] X.env)).all (fun x => x.1.isSome)
      && decide ([e2].length + ([] : List Keyword).length + (if ([] : List Keyword).isEmpty then 0 else 1) < 30)) = true := by rfl)
    (hl : (apos.endLine == pos.line) = true := by rfl) : CE X W (.Call (.Attribute e "rstrip" apos) [e2] [] pos) (cRs ca cb) :=
  ⟨pe_wk (pe_bm PySem.F.plainAttrs_str PySem.F.slot_str_rstrip PySem.F.type_str_rstrip mt_rstripChars h.p (pa_cons h2.p pa_nil hs) hb hfew hl hs) fun σ H Q ⟨en, sc, hc, m, E, P, r, k, xo, fin⟩ =>
    ⟨en, sc, hc, m, E, _, r, k, xo, fun d hc1 p v H1 m1 x1 q => by
      cases d <;> try exact p.elim
      rename_i a
      unfold Rep at q
      subst q
      exact ⟨rfl, en, sc, hc1, m1, E, _, r.call x1, p, xo, fun d2 hc2 p2 v2 H2 m2 x2 q2 => by
        cases d2 <;> try exact p2.elim
        rename_i b
        unfold Rep at q2
        subst q2
        have p2 : a.length ≤ sizeLine ∧ P (.str (Txt.rstripChars a b)) hc2 := p2
        exact ⟨a, b, rfl, rfl, p2.1, fin _ hc2 p2.2 _ H2 m2 (x1.trans x2) rep_str⟩⟩⟩⟩
end
theorem e_Rs {ca cb : CEx} {E : XP} {sc : List Sl} {hc : CH} {P : D → CH → Prop} : cRs ca cb E sc hc P = ca E sc hc fun d hc1 => match d with
  | .str a => cb E sc hc1 fun d2 hc2 => match d2 with
    | .str b => a.length ≤ sizeLine ∧ P (.str (Txt.rstripChars a b)) hc2
    | _ => False
  | _ => False := rfl
/-! ### the zeros at a number's end -/
theorem zeros_at : ∀ (f n : Nat), 0 < n → n ≤ f → ∃ z m, n = m * 10 ^ z ∧ m % 10 ≠ 0 ∧ (((Nat.toDigits 10 n).map Char.toNat).reverse.takeWhile (fun k => k == 48)).length = z
  | 0, n, h, g => by omega
  | f + 1, n, h, g => by
    by_cases s : n < 10
    · refine ⟨0, n, by rw [Nat.pow_zero, Nat.mul_one], by omega, ?_⟩
      rw [Nat.toDigits_of_lt_base s, List.map_singleton, List.reverse_singleton, List.takeWhile_cons, Nat.toNat_digitChar_of_lt_ten s, if_neg (by simp; omega)]
      rfl
    · have e := Nat.toDigits_of_base_le (b := 10) (n := n) (by decide) (by omega)
      have r := Nat.toNat_digitChar_of_lt_ten (n := n % 10) (by omega)
      by_cases t : n % 10 = 0
      · obtain ⟨z, m, h1, h2, h3⟩ := zeros_at f (n / 10) (by omega) (by omega)
        refine ⟨z + 1, m, ?_, h2, ?_⟩
        · rw [Nat.pow_succ, ← Nat.mul_assoc, ← h1]; omega
        · rw [e, List.map_append, List.reverse_append, List.map_singleton, List.reverse_singleton, List.singleton_append, List.takeWhile_cons, r, t, if_pos (by decide), List.length_cons, h3]
      · refine ⟨0, n, by rw [Nat.pow_zero, Nat.mul_one], t, ?_⟩
        rw [e, List.map_append, List.reverse_append, List.map_singleton, List.reverse_singleton, List.singleton_append, List.takeWhile_cons, r, if_neg (by simp; omega)]
        rfl
theorem rstrip_len (x : Str) : (Txt.rstripChars x "0").length = x.length - ((x.cps.toList).reverse.takeWhile (fun k => k == 48)).length := by
  have hp : (Str.ofString "0").cps.contains = fun k => k == 48 := by
    funext k
    have : (Str.ofString "0").cps = #[48] := by decide
    rw [this]
    simp
    rfl
  unfold Txt.rstripChars Txt.stripBy stripSame stripped
  rw [hp]
  have lo : stripLo (fun k => k == 48) false x = 0 := rfl
  have hi : stripHi (fun k => k == 48) true x 0 = x.length - ((x.cps.toList).reverse.takeWhile (fun k => k == 48)).length := rfl
  rw [lo, hi]
  split
  · next h =>
    rw [Bool.and_eq_true] at h
    have := h.2
    rw [beq_iff_eq] at this
    omega
  · unfold PySem.Builtin.Str.strSub
    show (x.cps.extract 0 _).size = _
    rw [Array.size_extract]
    have : x.cps.size = x.length := rfl
    omega
theorem text_zeros {d : Int} (h : 0 < d) : ∃ (z : Nat) (m : Int), d = m * 10 ^ z ∧ m % 10 ≠ 0 ∧ (Txt.rstripChars (Str.ofString (toString d)) "0").length + z = (Str.ofString (toString d)).length := by
  obtain ⟨n, rfl⟩ := Int.eq_ofNat_of_zero_le (Int.le_of_lt h)
  obtain ⟨z, m, h1, h2, h3⟩ := zeros_at n n (by omega) (Nat.le_refl _)
  have e : (Str.ofString (toString (n : Int))).cps.toList = (Nat.toDigits 10 n).map Char.toNat := by
    rw [Str.ofString_eq_toList]
    show List.map Char.toNat (Nat.repr n).toList = _
    simp [Nat.repr]
  refine ⟨z, m, ?_, by omega, ?_⟩
  · rw [h1]
    rw [Int.natCast_mul, Int.natCast_pow]
    rfl
  · rw [rstrip_len, e, h3]
    have le := List.takeWhile_prefix (fun k => k == 48) (l := ((Nat.toDigits 10 n).map Char.toNat).reverse)
    have l2 := le.length_le
    rw [h3, List.length_reverse, ← e] at l2
    have : (Str.ofString (toString (n : Int))).length = (Str.ofString (toString (n : Int))).cps.toList.length := by simp [Str.length]
    omega
end Mn

namespace Mn
open PySem PySem.Spec PyProof.Rows L2
/-! ### range downwards: range(i, j, -1) -/
def rngN (lo : Int) (n : Nat) : List D := (List.range n).map fun k : Nat => D.int (lo + (k : Int) * -1)
theorem rngN_yields {K : PySem.W.Frag} {H : Hp} {m : Ms} (lo : Int) (n : Nat) : Yields K (Itc lo (-1) n) (rngN lo n) H m := fun H2 m2 mo s2 i => by
  refine ⟨fun d e => ?_, fun hl => ?_⟩
  · unfold rngN at e
    rw [List.getElem?_map] at e
    by_cases lt : i < n
    · rw [List.getElem?_range lt] at e
      cases e
      refine ⟨lt, fun x H3 y => ?_⟩
      obtain ⟨e1, e2⟩ := y
      subst e1; subst e2
      exact ⟨.refl _, rep_int⟩
    · rw [List.getElem?_eq_none (by rw [List.length_range]; omega)] at e
      cases e
  · unfold rngN at hl
    rw [List.length_map, List.length_range] at hl
    exact hl
theorem rngN_at {lo : Int} {n j : Nat} {d : D} (h : (rngN lo n)[j]? = some d) : d = .int (lo - j) ∧ j < n := by
  unfold rngN at h
  rw [List.getElem?_map] at h
  by_cases lt : j < n
  · rw [List.getElem?_range lt] at h
    cases h
    refine ⟨?_, lt⟩
    exact congrArg D.int (show lo + (j : Int) * -1 = lo - j by omega)
  · rw [List.getElem?_eq_none (by rw [List.length_range]; omega)] at h
    cases h
theorem rngN_len {lo : Int} {n : Nat} : (rngN lo n).length = n := by
  unfold rngN
  rw [List.length_map, List.length_range]
def cR3 (ca : CAx) : CIx := fun E sc hc P => ca E sc hc fun ds hc1 => match ds with | [.int i, .int j, .int c] => (c = -1 ∧ i.natAbs < 2 ^ 60 ∧ j.natAbs < 2 ^ 60) ∧ P (rngN i (i - j).toNat) hc1 | _ => False
section
variable {X : Cx} {W : WX} {tg e : Expr} {ca : CAx} {pos : Pos}
theorem ci_r3 {e2 e3 : Expr} {p2 : Pos} (hm : X.mg "range" = none) (h : CA X W [e, e2, e3] ca) (hg : Gl X "range" := by rfl)
    (hs : starEach [e, e2, e3] X.env = (false, eval e X.env) :: starEach [e2, e3] X.env := by rfl) (hpl : (backTo pos (starEach [e2, e3] X.env)).any (·.1) = false := by rfl) :
    CI X W tg (.Call (.Name "range" p2) [e, e2, e3] [] pos) (cR3 ca) := ⟨pi_wk (pi_range3 hg hm h.p hs hpl) fun σ H R ⟨en, sc, hc, m, E, P, r, k, xo, fin⟩ =>
  ⟨en, sc, hc, m, E, _, r, k, xo, fun ds hc1 p vs H1 m1 x1 q => by
    split at p
    · unfold RepL at q
      obtain ⟨v, _, rfl, q1, q⟩ := q
      unfold RepL at q
      obtain ⟨v2, _, rfl, q2, q⟩ := q
      unfold RepL at q
      obtain ⟨v3, _, rfl, q3, q⟩ := q
      unfold RepL at q; unfold Rep at q1 q2 q3
      subst q; subst q1; subst q2; subst q3
      obtain ⟨⟨rfl, b1, b2⟩, p⟩ := p
      exact ⟨_, _, _, _, rfl, RgC.neg (by omega) (by omega) (by omega) (by omega), fin _ hc1 p _ H1 m1 x1 (rngN_yields _ _)⟩
    · exact p.elim⟩⟩
end
theorem e_R3 {ca : CAx} {E : XP} {sc : List Sl} {hc : CH} {P : List D → CH → Prop} : cR3 ca E sc hc P = ca E sc hc fun ds hc1 => match ds with | [.int i, .int j, .int c] => (c = -1 ∧ i.natAbs < 2 ^ 60 ∧ j.natAbs < 2 ^ 60) ∧ P (rngN i (i - j).toNat) hc1 | _ => False := rfl
end Mn

namespace Mn
open PySem PySem.Spec PyProof.Rows L2
/-! ### enumerate of a tuple or a list -/
set_option maxHeartbeats 1000000 in
theorem enum_made {z : Value} {ob : Obj} {Hq : Heap → Prop} (B : Begins z ob Hq) :
    Meets (Builtin.«enumerate.__new__» ⟨[.type "enumerate", z], []⟩) (fun _ R s => Hq s.heap ∧
      R (.ok (.ret (.ref (s.heap.push ob).objs.size))) { s with heap := (s.heap.push ob).push { cls := .type "enumerate", data := .fields #[.none, .bool false, .ref s.heap.objs.size, rawInt 0, .none, .none] } }) :=
  .of_wp fun prog w A R s y => by
    obtain ⟨hp, g, d, tk, os⟩ := s
    obtain ⟨y1, y⟩ := y
    have hsub := sub_enumerate
    have go : ∀ {A2 : Around} {E2 : Value → Shared → Prop} {Q2 : Value → Shared → Prop}, Q2 (.ref hp.objs.size) ⟨hp.push ob, g, d, tk, os⟩ → wpAny (model prog w) A2 (pyIter z) Q2 E2 ⟨hp, g, d, tk, os⟩ := fun q => B.iter prog w _ _ ⟨hp, g, d, tk, os⟩ _ y1 q
    wp_walk using go
    refine wpAny_stack_any fun st => wpAny_pure ?_
    split
    · rename_i cl _ _ _ _ _
      cases (cl == Value.type "enumerate") <;> (wp_walk using go; exact ⟨_, rfl, y⟩)
    · wp_walk using go
      exact ⟨_, rfl, y⟩
theorem enum_call {P : Program} {w : World} {A : Around} {E : Value → Shared → Prop} {s : Shared} {z : Value} {ob : Obj} {Hq : Heap → Prop} {Q : Value → Shared → Prop} (B : Begins z ob Hq) (y1 : Hq s.heap)
    (y : ∀ h2, IsEnum h2 (s.heap.objs.size + 1) s.heap.objs.size 0 .none → h2.get? s.heap.objs.size = some ob → (∀ b o, s.heap.get? b = some o → h2.get? b = some o) → Q (.ref (s.heap.objs.size + 1)) { s with heap := h2 }) :
    wpAny (model P w) A (call (.type "enumerate") [z]) Q E s := by
  refine callType_new F.called_enumerate (by decide) (F.typeCall_enumerate_1 _) (F.newCall_enumerate_1 _) (fun x => F.args_object_init_2 x _) F.entry_enumerate_new (enum_made B) ⟨y1, ?_⟩
  have sz : (s.heap.push ob).objs.size = s.heap.objs.size + 1 := Heap.size_push ..
  show _ ∧ _
  rw [sz]
  have ie : IsEnum ((s.heap.push ob).push { cls := .type "enumerate", data := .fields #[.none, .bool false, .ref s.heap.objs.size, rawInt 0, .none, .none] }) (s.heap.objs.size + 1) s.heap.objs.size 0 .none := by
    have := Heap.get?_push_size (s.heap.push ob) (o := { cls := .type "enumerate", data := .fields #[.none, .bool false, .ref s.heap.objs.size, rawInt 0, .none, .none] }) rfl
    rw [sz] at this
    exact this
  exact ⟨⟨_, ie, rfl⟩, y _ ie (Heap.get?_push_of_some _ (Heap.get?_push_size _ B.free)) fun b o x => Heap.get?_push_of_some _ (Heap.get?_push_of_some _ x)⟩
/-- the tuple at a, each item in a new pair -/
def IteT (K : PySem.W.Frag) (a : Addr) : It :=
  ⟨fun i H => ∃ (us : List V) (u : V), SqT K H a us ∧ us[i]? = some u, fun i H v H2 => ∃ N u, v = .ref N ∧ H N = none ∧ H2 = upd H N (.tup [.int (i : Nat), u]) ∧ ∀ us, SqT K H a us → us[i]? = some u, fun i H => ∃ us : List V, SqT K H a us ∧ us.length ≤ i⟩
theorem turn_enT {P : Program} {w : World} {K : PySem.W.Frag} {elts : List Expr} {kk : Nat} {tpos : Pos} (a e it : Addr) (nai : a ≠ it) (nae : a ≠ e) :
    Turn P w K (.Tuple elts kk tpos) (IteT K a) [e, it] e (fun i h => (∃ old, IsEnum h e it ((i : Nat) : Int) old) ∧ h.IsTupleIter it a i ∧ e ≠ it) where
  mem := List.mem_cons_self ..
  obj := fun i h st b hb => by
    obtain ⟨⟨old, ie⟩, ⟨o, ho, hcl, hdt⟩, _⟩ := st
    rcases List.mem_cons.mp hb with rfl | hb
    · exact ⟨_, ie, fun v q => nomatch q⟩
    · cases List.mem_singleton.mp hb
      exact ⟨o, ho, fun v q => by rw [hdt] at q; cases q⟩
  keep := fun i h h2 st k => by
    obtain ⟨⟨old, ie⟩, hi, ne⟩ := st
    exact ⟨⟨old, k e (List.mem_cons_self ..) _ ie⟩, hi.at fun o q => k it (List.mem_cons_of_mem _ (List.mem_singleton_self _)) o q, ne⟩
  item := by
    intro X eP ew eK cal i pins s σ H E I apart st gd
    subst eP ew eK
    obtain ⟨⟨old, ie⟩, hit, ne⟩ := st
    obtain ⟨us, u, hq, hu⟩ := gd
    obtain ⟨its, rv, p, hz⟩ := I.tuple hq
    obtain ⟨y, hy, ry⟩ := rv.get hu
    have le : e < s.heap.objs.size := Heap.lt_size ie
    have li : it < s.heap.objs.size := by obtain ⟨_, q, _⟩ := hit; exact Heap.lt_size q
    have tup : s.heap.IsTuple a its.toArray := p
    have D := Draws.tuple (prog := X.prog) (w := X.w) (A := X.A.in1) (I.ok.hd cal) it a nai its.toArray
    have il : i < its.toArray.size := by
      have := (List.getElem?_eq_some_iff.mp hy).1
      simpa using this
    refine wpAny_pyNext_enum_itemD D ie ⟨hit, tup⟩ il ne ?_ fun x h2 tk hx out st2 hN hsz hk => ?_
    · intro q
      rcases List.mem_cons.mp q with q | q
      · exact ne q
      · exact nae (List.mem_singleton.mp q).symm
    obtain rfl : x = y := by
      have hx : its.toArray[i]? = some x := hx
      rw [List.getElem?_toArray, hy] at hx
      exact (Option.some.inj hx).symm
    refine ⟨_, rfl, wpAny_letOwnedTupleGo_enum (s := { s with heap := h2, toks := tk + 1 }) out fun h3 ie3 sb => ?_⟩
    have hN3 : h3.get? s.heap.objs.size = some { cls := .type "tuple", data := .seq #[.int i tk, x] } := (sb.2 _ (Nat.ne_of_gt le)).trans hN
    have new : ObjOk X.prog X.w (upd H s.heap.objs.size (.tup [.int (i : Nat), u])) h3 s.heap.objs.size (.tup [.int (i : Nat), u]) :=
      ⟨show 2 ≤ sizeLine by decide, [.int i tk, x], .cons ⟨_, rfl⟩ (.cons ry .nil), ⟨_, hN3, rfl, _, rfl⟩⟩
    have I1 : Inv X pins σ (upd H s.heap.objs.size (.tup [.int (i : Nat), u])) { s with heap := h3, toks := tk + 1 } :=
      I.turnedNew (t' := tk + 1) (ch := [e, it]) (fun b ob hb q => (sb.2 b (fun z => hb (z ▸ List.mem_cons_self ..))).trans (hk b ob (fun z => hb (z ▸ List.mem_cons_self ..)) (fun z => hb (z ▸ List.mem_cons_of_mem _ (List.mem_singleton_self _))) q)) apart (Nat.le_refl _) new
    have sit := st2.1.at fun o q => (sb.2 it (Ne.symm ne)).trans q
    refine ⟨.ref s.heap.objs.size, _, I1, rfl, ⟨_, u, rfl, I.hok.fresh (Nat.le_refl _), rfl, fun ys hys => by rw [I.tuple_inj hys hq]; exact hu⟩, ⟨⟨x, ?_⟩, sit, ne⟩, fun b hb => ?_⟩
    · rw [show ((i + 1 : Nat) : Int) = (i : Int) + 1 by omega]
      exact ie3
    · have lb : b < s.heap.objs.size := by
        rcases List.mem_cons.mp hb with rfl | hb
        · exact le
        · cases List.mem_singleton.mp hb
          exact li
      exact (upd_ne (Nat.ne_of_lt lb)).trans (apart b hb).1
  done := by
    intro X eP ew eK cal i pins s σ H E I apart st gd
    subst eP ew eK
    obtain ⟨⟨old, ie⟩, hit, ne⟩ := st
    obtain ⟨us, hq, hu⟩ := gd
    obtain ⟨its, rv, p, hz⟩ := I.tuple hq
    have tup : s.heap.IsTuple a its.toArray := p
    obtain ⟨f0, f1, f2, f3, f4, f5⟩ := apart it (List.mem_cons_of_mem _ (List.mem_singleton_self _))
    have ll := rv.length
    have hT : s.TypeIs (.ref e) "enumerate" := ⟨_, ie, rfl⟩
    unfold pyNext
    refine wpAny_bind (wpAny_attempt (wpAny_callSpecial?_slot (name := Str.ofString "__next__") hT F.slot_enumerate_next
      (wpAny_call_entry F.slot_enumerate_next hT F.entry_enumerate_next ?_ (F.args_enumerate_next_1 _))))
    show wpAny _ _ (field (.ref e) 2 >>= _) _ _ _
    refine wpAny_bind (wpAny_field ie rfl (x := .ref it) rfl ?_)
    refine wpAny_bind (wpAny_nextOf_tuple_end (A := X.A.in1) (I.ok.hd cal) hit tup (by rw [List.getElem?_toArray]; exact List.getElem?_eq_none (by omega)) fun h2 x eb hx => ?_)
    obtain ⟨o, ho, hcl⟩ := hx
    refine wpAny_bind (wpAny_isInstance (T := "StopIteration") (b := true) ⟨o, ho, hcl⟩ isSubtype_stop ?_)
    exact wpAny_pure ⟨rfl, I.turned (t' := s.toks) (fun b o hb q => eb b o hb q) f0 f1 f3 f4 f5⟩
  self := fun A i s Q E st y => by
    obtain ⟨⟨_, ie⟩, _⟩ := st
    exact wpAny_pyIter_enum ie y
def iEnU (K : PySem.W.Frag) (ta : TA) : TI := fun σ H R => ta σ H fun vs H1 => ∃ a, vs = [.ref a] ∧ ((∃ xs, SqL K H1 a xs ∧ R (Ite K a) H1) ∨ (∃ xs, SqT K H1 a xs ∧ R (IteT K a) H1))
theorem pi_enU {X : Cx} {e : Expr} {ta : TA} {p pos tpos : Pos} {elts : List Expr} {kk : Nat} (hg : Gl X "enumerate") (hm : X.mg "enumerate" = none) (ha : PA X [e] ta) (hs : starEach [e] X.env = [(false, eval e X.env)] := by rfl) :
    PI X (.Tuple elts kk tpos) (.Call (.Name "enumerate" p) [e] [] pos) (iEnU X.K ta) := by
  refine ⟨fun pins s σ H R I y => ?_⟩
  refine Call_ (ld_blt I hg hm boot_enumerate (PyProof.Rows.callWith_type1 (thn (ha.run pos pins s σ H _ I y) fun us s1 ⟨vs, H1, I1, r1, q1⟩ => ?_) hs rfl))
  obtain ⟨a, ev, q⟩ := q1
  subst ev
  cases r1 with
  | cons r rr =>
    cases rr
    cases r
    have ap : ∀ b ∈ [s1.heap.objs.size + 1, s1.heap.objs.size], s1.heap.objs.size ≤ b := fun b hb => by
      rcases List.mem_cons.mp hb with rfl | hb
      · exact Nat.le_add_right _ _
      · cases List.mem_singleton.mp hb
        exact Nat.le_refl _
    rcases q with ⟨xs, hq, q⟩ | ⟨xs, hq, q⟩
    · obtain ⟨its, rv, pl, hz⟩ := I1.list hq
      have pl := pl.isList
      refine enum_call (begins_list a its.toArray) pl fun h2 ie hit hk => wpAny_pyIter_enum ie ?_
      have I2 : Inv X pins σ H1 { s1 with heap := h2 } := I1.kept (t' := s1.toks) hk
      exact ⟨s1.heap.objs.size + 1, [s1.heap.objs.size + 1, s1.heap.objs.size], _, _, H1, rfl, I2, turn_enum a (s1.heap.objs.size + 1) s1.heap.objs.size, ⟨⟨.none, ie⟩, ⟨_, hit, rfl, rfl⟩, Nat.succ_ne_self _⟩, fun b hb => I1.fpOk (ap b hb) (I1.hok.fresh (ap b hb)), q⟩
    · obtain ⟨its, rv, pl, hz⟩ := I1.tuple hq
      have tup : s1.heap.IsTuple a its.toArray := pl
      have la : a < s1.heap.objs.size := by obtain ⟨_, z, _⟩ := tup; exact Heap.lt_size z
      refine enum_call (begins_tuple a its.toArray) tup fun h2 ie hit hk => wpAny_pyIter_enum ie ?_
      have I2 : Inv X pins σ H1 { s1 with heap := h2 } := I1.kept (t' := s1.toks) hk
      exact ⟨s1.heap.objs.size + 1, [s1.heap.objs.size + 1, s1.heap.objs.size], _, _, H1, rfl, I2, turn_enT a (s1.heap.objs.size + 1) s1.heap.objs.size (Nat.ne_of_lt la) (Nat.ne_of_lt (Nat.lt_succ_of_lt la)), ⟨⟨.none, ie⟩, ⟨_, hit, rfl, rfl⟩, Nat.succ_ne_self _⟩, fun b hb => I1.fpOk (ap b hb) (I1.hok.fresh (ap b hb)), q⟩
def enuL (xs : List D) : List D := xs.mapIdx fun i x => D.tup [.int (i : Nat), x]
theorem enu_at {xs : List D} {i : Nat} {d : D} (h : (enuL xs)[i]? = some d) : ∃ x, xs[i]? = some x ∧ d = .tup [.int (i : Nat), x] := by
  unfold enuL at h
  rw [List.getElem?_mapIdx] at h
  cases ex : xs[i]? with
  | none => rw [ex] at h; cases h
  | some x => rw [ex] at h; cases h; exact ⟨x, rfl, rfl⟩
theorem enu_len {xs : List D} : (enuL xs).length = xs.length := List.length_mapIdx
def enuP (ds : List D) (P : List D → CH → Prop) (hc : CH) : Prop := match ds with
  | [.lst xs] => P (enuL xs) hc
  | [.tup xs] => P (enuL xs) hc
  | _ => False
def cEnum (c1 : CEx) : CIx := fun E sc hc P => cCons c1 cNil E sc hc fun ds hc1 => enuP ds P hc1
theorem ci_enum {X : Cx} {W : WX} {elts : List Expr} {kk : Nat} {tpos p pos : Pos} {e : Expr} {c1 : CEx} (hm : X.mg "enumerate" = none) (h1 : CE X W e c1) (hg : Gl X "enumerate" := by rfl) (hs : starEach [e] X.env = (false, eval e X.env) :: starEach [] X.env := by rfl) (hs1 : starEach [e] X.env = [(false, eval e X.env)] := by rfl) :
    CI X W (.Tuple elts kk tpos) (.Call (.Name "enumerate" p) [e] [] pos) (cEnum c1) := ⟨pi_wk (pi_enU hg hm (ca_cons h1 ca_nil hs).p hs1) fun σ H R ⟨en, sc, hc, m, E, P, r, k, xo, fin⟩ =>
  ⟨en, sc, hc, m, E, fun ds hc1 => enuP ds P hc1, r, k, xo, fun ds hc1 pz vs H1 m1 x1 q => by
    have mu1 := (r.call x1).mu
    have pz : enuP ds P hc1 := pz
    unfold enuP at pz
    split at pz
    · rename_i xs
      unfold RepL at q
      obtain ⟨v1, r1, rfl, qa, q⟩ := q
      unfold RepL at q
      subst q
      unfold Rep at qa
      obtain ⟨a, us, rfl, na, ha, la⟩ := qa
      refine ⟨a, rfl, .inl ⟨us, .of ha, fin _ hc1 pz _ H1 m1 x1 fun H2 m2 mo s2 i => ⟨fun d ed => ?_, fun hl => ?_⟩⟩⟩
      · obtain ⟨x, ex, rfl⟩ := enu_at ed
        obtain ⟨u, eu, ru⟩ := la.get ex
        have hqa := SqL.of (K := X.K) (s2.keep _ _ ha na)
        refine ⟨⟨us, u, hqa, eu⟩, fun x3 H3 ⟨T, u', e3, nT, eH, g1⟩ => ?_⟩
        have t1 := g1 us hqa
        rw [eu] at t1; cases t1
        subst e3
        subst eH
        exact ⟨same_upd nT, rep_tup mo nT (RepL.cons rep_int (RepL.cons (Rep.mono mu1 s2 _ _ ru) RepL.nil))⟩
      · refine ⟨us, .of (s2.keep _ _ ha na), ?_⟩
        rw [← la.length]
        rw [enu_len] at hl
        exact hl
    · rename_i xs
      unfold RepL at q
      obtain ⟨v1, r1, rfl, qa, q⟩ := q
      unfold RepL at q
      subst q
      unfold Rep at qa
      obtain ⟨a, us, rfl, ha, la⟩ := qa
      refine ⟨a, rfl, .inr ⟨us, ha, fin _ hc1 pz _ H1 m1 x1 fun H2 m2 mo s2 i => ⟨fun d ed => ?_, fun hl => ?_⟩⟩⟩
      · obtain ⟨x, ex, rfl⟩ := enu_at ed
        obtain ⟨u, eu, ru⟩ := la.get ex
        have hqa := sqt_step mu1 s2 ha
        refine ⟨⟨us, u, hqa, eu⟩, fun x3 H3 ⟨T, u', e3, nT, eH, g1⟩ => ?_⟩
        have t1 := g1 us hqa
        rw [eu] at t1; cases t1
        subst e3
        subst eH
        exact ⟨same_upd nT, rep_tup mo nT (RepL.cons rep_int (RepL.cons (Rep.mono mu1 s2 _ _ ru) RepL.nil))⟩
      · refine ⟨us, sqt_step mu1 s2 ha, ?_⟩
        rw [← la.length]
        rw [enu_len] at hl
        exact hl
    · exact pz.elim⟩⟩
theorem e_Enum {c1 : CEx} {E : XP} {sc : List Sl} {hc : CH} {P : List D → CH → Prop} : cEnum c1 E sc hc P = cCons c1 cNil E sc hc fun ds hc1 => enuP ds P hc1 := rfl
theorem o_enL {xs : List D} {hc : CH} {P : List D → CH → Prop} : enuP [.lst xs] P hc = P (enuL xs) hc := rfl
theorem o_enT {xs : List D} {hc : CH} {P : List D → CH → Prop} : enuP [.tup xs] P hc = P (enuL xs) hc := rfl
end Mn

namespace Mn
open PySem PySem.Spec PyProof.Rows L2
/-! ### sorted(set(a list of ints)) -/
/-- a set just made -/
abbrev nuS (w : World) : Obj := { cls := .type "set", dict := none, data := .set #[] 0 (.fresh 0 0 (!w.params.followText "set-order")) }
section
variable {P : Program} {w : World} {A : Around} {E : Value → Shared → Prop} {s : Shared}
set_option maxHeartbeats 3200000 in
theorem set_of_list {l : Addr} {its : Array Value} (ns : List Int) {Q : Value → Shared → Prop} (calm : A.handled = none) (hl : s.heap.IsList l its) (hit : IntsAre its.toList ns) (hb : ns.length + 1 < scanBound)
    (y : ∀ (h2 : Heap) (tk c : Nat), SetR w h2 s.heap.objs.size (fun j => decide (j ∈ ns)) c → c ≤ ns.length → (∀ b o, s.heap.get? b = some o → h2.get? b = some o) → Q (.ref s.heap.objs.size) { s with heap := h2, toks := tk }) :
    wpAny (model P w) A (call (.type "set") [.ref l]) Q E s := by
  have sz : its.size = ns.length := by have z := IntsAre.length hit; rw [Array.length_toList] at z; exact z
  obtain ⟨c0, tl0, hmro⟩ := F.called_set.mro
  have made0 := F.called_set.made; have sub0 := F.called_set.sub
  refine wpAny_call (codeAny_of_tree ?_); show wpAny _ _ (callAny (.type "set") _) _ _ _
  refine wpAny_pure ⟨Code.quiet_builtin _ (by decide +kernel), codeAny_builtin F.entry_type_call ?_⟩; rw [Around.under_plain (weight_type_call_type "set" [.ref l] []) rfl]
  have g1 := F.called_set.notType; have g2 := F.called_set.canCreate; have g3 := F.typeCall_set_1 (.ref l)
  repeat (any_goals (first | assumption | wp_step))
  refine codeAny_mono (code_set_led1 (.ref l) (E := E) (Q₁ := fun ob t1 => ob = .ref s.heap.objs.size ∧ t1 = { s with heap := s.heap.push (nuS w) }) ⟨rfl, rfl⟩) fun r t1 hr => ?_
  cases r with
  | error e => exact hr
  | ok fl =>
    cases fl with
    | ret ob =>
      obtain ⟨rfl, rfl⟩ := hr
      have gS : (s.heap.push (nuS w)).get? s.heap.objs.size = some (nuS w) := Heap.get?_push_size _ rfl
      have gT : Shared.TypeIs { s with heap := s.heap.push (nuS w) } (.ref s.heap.objs.size) "set" := ⟨_, gS, rfl⟩
      have gi := F.called_set.init.lookup; have gb := F.called_set.init.bind (.ref s.heap.objs.size)
      repeat (any_goals (first | assumption | wp_step))
      refine codeAny_mono (codeAny_call_builtin (R := wants (fun r t2 => r = .none ∧ ∃ h2 tk c, t2 = { s with heap := h2, toks := tk } ∧ SetR w h2 s.heap.objs.size (fun j => decide (j ∈ ns)) c ∧ c ≤ ns.length ∧ (∀ b o, s.heap.get? b = some o → h2.get? b = some o)) E) F.called_set.init.plain F.entry_set_init (check_set_init_1 gT ?_)) fun r2 t2 hr2 => ?_
      · obtain ⟨ol, hol, hcl, nl, hdl⟩ := hl; obtain ⟨oc, od, oda, osl⟩ := ol
        simp only at hcl hdl
        subst hcl; subst hdl
        have hol1 : (s.heap.push (nuS w)).get? l = some { cls := .type "list", dict := od, data := .seq its nl, slots := osl } := Heap.get?_push_of_some _ hol
        have hs1 := F.sub_list_set; have hs2 := F.sub_list_frozenset
        have nd : (Value.type "list" == Value.type "dict") = false := by decide
        have hl1 : (s.heap.push (nuS w)).IsList l its := ⟨_, hol1, rfl, nl, rfl⟩
        unfold Builtin.«set.__init__» noKeywords Builtin.Frozenset.updateFrom
        generalize hPI : pyIter = PI; wp_walk; subst hPI
        refine wpAny_pyIter_list hl1 (wpAny_bind (wpAny_runValue ?_))
        have lS : l < s.heap.objs.size := Heap.lt_size hol
        have c3 : A.in1.in1.in1.handled = none := by simp [calm]
        have zz : (s.heap.push (nuS w)).objs.size = s.heap.objs.size + 1 := Heap.size_push ..
        have nI : l ≠ (s.heap.push (nuS w)).objs.size := by rw [zz]; exact Nat.ne_of_lt (Nat.lt_succ_of_lt lS)
        have nS : s.heap.objs.size ∉ [(s.heap.push (nuS w)).objs.size, l] := by
          rw [zz]; intro z
          rcases List.mem_cons.mp z with z | z
          · exact Nat.ne_of_lt (Nat.lt_succ_self _) z
          · exact Nat.ne_of_gt lS (List.mem_singleton.mp z)
        have val : ∀ (i : Nat) (v : Value), its[i]? = some v → ∃ k t, ns[i]? = some k ∧ v = .int k t := fun i v hv => by
          have hi : i < ns.length := by rw [← sz]; exact (Array.getElem?_eq_some_iff.mp hv).1
          obtain ⟨t, e⟩ := PyProof.Rows.IntsAre.int_at hit i v (by rw [Array.getElem?_toList]; exact hv)
          exact ⟨ns[i], t, List.getElem?_eq_getElem hi, by rw [e, List.getD_eq_getElem?_getD, List.getElem?_eq_getElem hi] <;> rfl⟩
        refine set_update_ints ((Walks.list c3 _ l nI its).toS) s.heap.objs.size nS ns sz hb val (its.size - 0) 0 _ (by omega) (Nat.zero_le _) ⟨⟨_, Heap.get?_push_size _ rfl, rfl, rfl⟩, (hl1.push _)⟩ ⟨0, Nat.le_refl 0, setR_new_at (Heap.get?_push_of_some _ gS)⟩ fun s2 c2 hm hc2 hS2 => ?_
        obtain ⟨h2, gn2, d2, tk2, os2⟩ := s2
        have eg : gn2 = s.gens := hm.gens; have ed : d2 = s.drawn := hm.drawn; have eo : os2 = s.os := hm.os
        subst eg; subst ed; subst eo
        show wpAny _ _ _ _ _ _
        refine wpAny_pure ?_
        show wpAny _ _ (ret Value.none) _ _ _
        rw [sz] at hc2
        refine wpAny_pure ⟨rfl, h2, tk2, c2, rfl, hS2, hc2, fun b o e => ?_⟩
        have b0 : b < s.heap.objs.size := Heap.lt_size e
        refine hm.heap b o (fun z => ?_) (Heap.get?_push_of_some _ (Heap.get?_push_of_some _ e))
        rcases List.mem_cons.mp z with z | z
        · exact Nat.ne_of_lt b0 z
        · rw [List.mem_singleton] at z
          have z : b = (s.heap.push (nuS w)).objs.size := z
          rw [zz] at z
          exact Nat.ne_of_lt (Nat.lt_succ_of_lt b0) z
      · cases r2 with
        | error e => exact hr2
        | ok fl2 =>
          cases fl2 with
          | ret r =>
            obtain ⟨rfl, h2, tk, c, rfl, hS, hc, hk⟩ := hr2
            repeat (any_goals (first | assumption | wp_step))
            exact y _ _ _ hS hc hk
          | _ => exact hr2.elim
    | _ => exact hr.elim
theorem sorted_of_set {a : Addr} {S : Int → Bool} {n : Nat} {Q : Value → Shared → Prop} (R : SetR w s.heap a S n) (calm : A.handled = none) (n1 : n ≤ sizeLine)
    (y : ∀ t1 p (out : Array Value) (c : Nat) (ns : List Int), (∀ b o, s.heap.get? b = some o → t1.heap.get? b = some o) → t1.gens = s.gens → t1.os = s.os → s.heap.objs.size ≤ p → t1.heap.get? p = some (seqObj "list" out c) → IntsAre out.toList ns → ns.Pairwise (· < ·) → (∀ k, k ∈ ns ↔ S k = true) → ns.length = n → Q (.ref p) t1) :
    wpAny (model P w) A (call (.builtin "sorted") [.ref a]) Q E s := by
  obtain ⟨o, es, ep, t, ho, hex, hd, g, nd, hm, hb, hf, hn, hr, hl⟩ := R
  refine Calls.call_function_entry kind_sorted plain_sorted entry_sorted (args_sorted1 _) ?_
  unfold Builtin.«sorted»
  refine wpAny_bind (m := checkCount "sorted" 1 1 _) (wpAny_pure (wpAny_bind (collect_set (A := A.in1) calm ⟨o, ho, hex.1, hd⟩ hf hb hr hl fun t1 vs k1 hz gg oo pm => ?_)))
  have vl : vs.length = n := by rw [pm.length_eq, List.length_map, Array.length_toList]; exact hn
  have vi : IntsAre vs (vs.map Builtin.Re.reRawOf) := ints_of vs fun v hv => by
    obtain ⟨e, he, q⟩ := List.mem_map.mp (pm.mem_iff.mp hv); obtain ⟨k, tk, e1, _⟩ := g e he
    exact ⟨k, tk, by rw [← q]; exact e1⟩
  have pk : (vs.map Builtin.Re.reRawOf).Perm (es.toList.map keyOf) := by have q := pm.map Builtin.Re.reRawOf; rw [List.map_map] at q; exact q
  refine wpAny_bind (wpAny_newList ?_ (by rw [vl]; exact n1))
  have gL : (t1.heap.push (seqObj "list" vs.toArray 0)).get? t1.heap.objs.size = some (seqObj "list" vs.toArray 0) := Heap.get?_push_size _ rfl
  refine wpAny_bind (wpAny_holding (wpAny_call_entry slot_list_sort ⟨_, gL, rfl⟩ entry_list_sort (list_sort_treeAny gL vi (by rw [vl]; exact n1) fun out ns2 a1 a2 a3 => ⟨_, rfl, ?_⟩) (args_list_sort _)))
  obtain ⟨c, hc⟩ := sortedHeap_at (vs := vs) (out := out) gL
  have pn : ns2.Perm (es.toList.map keyOf) := a2.trans pk
  refine wpAny_pure ⟨_, rfl, y _ t1.heap.objs.size out c ns2 (fun b u e => ?_) gg oo hz hc a1 (lt_of_le_nodup ns2 a3 (pn.nodup_iff.mpr nd)) (fun k => by rw [pn.mem_iff, ← hm k]) (by rw [pn.length_eq, List.length_map, Array.length_toList]; exact hn)⟩
  have q := k1 b u e; have lt := Heap.lt_size q
  show (sortedHeap (t1.heap.push (seqObj "list" vs.toArray 0)) t1.heap.objs.size vs out).get? b = some u
  rw [sortedHeap_old (Nat.ne_of_lt lt) (by rw [size_push']; exact Nat.lt_succ_of_lt lt)]; exact Heap.get?_push_of_some _ q
end
/-- sorted(set(e)) -/
def tSrtS (K : PySem.W.Frag) (ta : TE) : TE := fun σ H Q => ta σ H fun x H1 => ∃ (l : Addr) (ns : List Int), x = V.ref l ∧ SqL K H1 l (ns.map V.int) ∧ ns.length ≤ 4000 ∧ ∀ (ms : List Int) (p : Addr), ms.Pairwise (· < ·) → (∀ k, k ∈ ms ↔ k ∈ ns) → ms.length ≤ ns.length → H1 p = none → Q (.ref p) (upd H1 p (.lst (ms.map V.int)))
theorem pe_srtS {X : Cx} {a : Expr} {ta : TE} {p p2 q pos : Pos} (hc : X.calm = true) (hg : Gl X "sorted") (hm : X.mg "sorted" = none) (hg2 : Gl X "set") (hm2 : X.mg "set" = none) (ha : PE X a ta)
    (na : starEach [a] X.env = (false, eval a X.env) :: starEach [] X.env := by rfl) (nb : starEach [.Call (.Name "set" p2) [a] [] q] X.env = (false, eval (.Call (.Name "set" p2) [a] [] q) X.env) :: starEach [] X.env := by rfl) :
    PE X (.Call (.Name "sorted" p) [.Call (.Name "set" p2) [a] [] q] [] pos) (tSrtS X.K ta) := by
  refine ⟨fun pins s σ H Q I y => ?_⟩
  refine Call_ (ld_blt I hg hm PyProof.Rows.boot_sorted ?_)
  refine PyProof.Rows.callWith_builtin1 (PyProof.Rows.args_cons ?_ nb) nb rfl
  refine Call_ (ld_blt I hg2 hm2 PyProof.Rows.boot_set ?_)
  refine PyProof.Rows.callWith_type1 (PyProof.Rows.args_cons (thn (ha.run pins s σ H _ I y) fun v s1 ⟨x, H1, I1, r1, q1⟩ => PyProof.Rows.args_nil ?_) na) na rfl
  obtain ⟨l, ns, rfl, hq, h1, q1⟩ := q1
  cases r1
  obtain ⟨its, r, pl, hz⟩ := I1.list hq
  have hd := I1.ok.hd hc
  refine set_of_list ns hd pl.isList (by simpa using r.ints) (by unfold scanBound; omega) fun h2 tk c R1 hcn hk => PyProof.Rows.args_nil ?_
  have I2 : Inv X pins σ H1 { s1 with heap := h2, toks := tk } := I1.kept hk
  refine sorted_of_set R1 hd (by rw [sizeLine_eq]; omega) fun t1 p out c2 ms k1 g1 o1 hp hg3 hi hs hme hle => ?_
  have ml : (ms.map V.int).length ≤ sizeLine := by rw [List.length_map, hle, sizeLine_eq]; omega
  have hp1 : s1.heap.objs.size ≤ p := Nat.le_trans (Nat.le_of_lt R1.lt) hp
  have k0 : ∀ b u, s1.heap.get? b = some u → t1.heap.get? b = some u := fun b u e => k1 b u (hk b u e)
  have nn : H1 p = none := I1.hok.fresh hp1
  have J : Inv X pins σ (upd H1 p (.lst (ms.map V.int))) { s1 with heap := t1.heap, gens := t1.gens, drawn := t1.drawn, toks := t1.toks } :=
    I1.call (ch := []) (Un.laid k0 hp1 nn) (I1.hok.laid k0 hp1 ⟨ml, out.toList, c2, vals_of_ints hi, hg3⟩) (by rw [g1]; exact I1.bare) (fun _ z => nomatch z)
  have e : t1 = { s1 with heap := t1.heap, gens := t1.gens, drawn := t1.drawn, toks := t1.toks } := by cases t1; cases s1; cases o1; rfl
  rw [e]
  exact ⟨.ref p, _, J, rfl, q1 ms p hs (fun k => by rw [hme k, decide_eq_true_eq]) (by omega) nn⟩
/-- in clean data -/
def cSrtS (c1 : CEx) : CEx := fun E sc hc P => c1 E sc hc fun d hc1 => match d with
  | .lst xs => ∃ ns : List Int, xs = ns.map D.int ∧ ns.length ≤ 4000 ∧ ∀ ms : List Int, ms.Pairwise (· < ·) → (∀ k, k ∈ ms ↔ k ∈ ns) → ms.length ≤ ns.length → P (.lst (ms.map D.int)) hc1
  | _ => False
theorem repL_ints {K : PySem.W.Frag} {H : Hp} {m : Ms} : ∀ ns : List Int, RepL K H m (ns.map D.int) (ns.map V.int)
  | [] => RepL.nil
  | _ :: ns => RepL.cons rep_int (repL_ints ns)
theorem ints_rep {K : PySem.W.Frag} {H : Hp} {m : Ms} : ∀ {ns : List Int} {vs : List V}, RepL K H m (ns.map D.int) vs → vs = ns.map V.int
  | [], vs, h => by
    rw [List.map_nil] at h
    unfold RepL at h
    exact h
  | n :: ns, vs, h => by
    rw [List.map_cons] at h
    unfold RepL at h
    obtain ⟨v, r, rfl, a, b⟩ := h
    unfold Rep at a
    rw [a, ints_rep b]
    rfl
theorem ce_srtS {X : Cx} {W : WX} {e : Expr} {ca : CEx} {p p2 pos pos2 : Pos} (hc : X.calm = true) (hl : X.mg "sorted" = none) (hr : X.mg "set" = none) (h : CE X W e ca) (hg : Gl X "sorted" := by rfl) (hg2 : Gl X "set" := by rfl) (na : starEach [e] X.env = (false, eval e X.env) :: starEach [] X.env := by rfl)
    (nb : starEach [.Call (.Name "set" p2) [e] [] pos2] X.env = (false, eval (.Call (.Name "set" p2) [e] [] pos2) X.env) :: starEach [] X.env := by rfl) : CE X W (.Call (.Name "sorted" p) [.Call (.Name "set" p2) [e] [] pos2] [] pos) (cSrtS ca) :=
  ⟨pe_wk (pe_srtS hc hg hl hg2 hr h.p na nb) fun σ H Q ⟨en, sc, hc, m, E, P, r, k, xo, fin⟩ =>
    ⟨en, sc, hc, m, E, _, r, k, xo, fun d hc1 pp v H1 m1 x1 q => by
      cases d <;> try exact pp.elim
      rename_i xs
      obtain ⟨ns, rfl, nl, pp⟩ := pp
      unfold Rep at q
      obtain ⟨a, us, rfl, nna, ha, la⟩ := q
      cases ints_rep la
      exact ⟨a, ns, rfl, .of ha, nl, fun ms p hs hme hle np => fin _ hc1 (pp ms hs hme hle) _ _ m1 (x1.trans (Ex.same x1.toWd (same_upd np))) (rep_lst (r.call x1).mu np (repL_ints _))⟩⟩⟩
theorem e_SrtS {c1 : CEx} {E : XP} {sc : List Sl} {hc : CH} {P : D → CH → Prop} : cSrtS c1 E sc hc P = c1 E sc hc fun d hc1 => match d with
  | .lst xs => ∃ ns : List Int, xs = ns.map D.int ∧ ns.length ≤ 4000 ∧ ∀ ms : List Int, ms.Pairwise (· < ·) → (∀ k, k ∈ ms ↔ k ∈ ns) → ms.length ≤ ns.length → P (.lst (ms.map D.int)) hc1
  | _ => False := rfl
end Mn

namespace Mn
open PySem PySem.Spec PyProof.Rows L2
/-! ### all(a list of truths) -/
section
variable {X : Cx}
theorem repl_bls_of {K : PySem.W.Frag} {H : Hp} {m : Ms} : ∀ {ns : List Bool} {vs : List V}, RepL K H m (ns.map D.bl) vs → vs = ns.map V.bl
  | [], vs, h => by unfold List.map RepL at h; exact h
  | n :: ns, vs, h => by
    unfold List.map RepL at h
    obtain ⟨v, r, rfl, h1, h2⟩ := h
    unfold Rep at h1
    rw [h1, repl_bls_of h2]
    rfl
theorem rep_blv {K : PySem.W.Frag} {H : Hp} {m : Ms} {b : Bool} : Rep K H m (.bl b) (.bl b) := by unfold Rep; rfl
def allD : On := fun ds hc P => match ds with
  | [.lst xs] => ∃ ns : List Bool, xs = ns.map D.bl ∧ P (.bl (ns.all id))
  | _ => False
theorem bf_all (hc : X.calm = true) : CallR X (.builtin "all") (LVn X.K allD) := by
  intro pins s σ H xs us Q I r h
  obtain ⟨hc', m, ds, P, w, h1, f, fin⟩ := h
  unfold allD at f
  split at f
  · obtain ⟨x, rfl, k1⟩ := wl1 h1
    unfold RepW at k1
    obtain ⟨p, vs, rfl, q, rl⟩ := k1
    obtain ⟨ns, rfl, pd⟩ := f
    rw [repl_bls_of rl] at q
    exact cr_all hc pins s σ H _ us Q I r ⟨p, ns, rfl, .of q, fin _ pd _ _ (.refl H) rep_blv⟩
  · exact f.elim
theorem o_all1 {hc : CH} {P : D → Prop} {xs : List D} : allD [.lst xs] hc P = ∃ ns : List Bool, xs = ns.map D.bl ∧ P (.bl (ns.all id)) := rfl
end
end Mn

namespace Mn
open PySem PySem.Spec PyProof.Rows L2
/-! ### texts: a text times a number, a sign in a text -/
def repS (x : Str) (n : Int) : Str := ⟨(List.replicate n.toNat x.cps.toList).flatten.toArray⟩
theorem rep_fold : ∀ (k : Nat) (a acc : Array Nat), (List.replicate k a).foldl (· ++ ·) acc = (acc.toList ++ (List.replicate k a.toList).flatten).toArray
  | 0, a, acc => by simp
  | k + 1, a, acc => by
    rw [List.replicate_succ, List.foldl_cons, rep_fold k a (acc ++ a), List.replicate_succ, List.flatten_cons, Array.toList_append, List.append_assoc]
theorem repS_fold {x : Str} {n : Int} : repS x n = ⟨(List.replicate n.toNat x.cps).foldl (· ++ ·) #[]⟩ := by
  rw [rep_fold]
  rfl
def mulTD : O2
  | .str x, .int n, _, P => (0 ≤ n ∧ n ≤ 1000 ∧ 0 < x.length ∧ x.length ≤ 1000) ∧ P (.str (repS x n))
  | _, _, _, _ => False
section
variable {X : Cx}
theorem op_mulTD : OpR X (binaryOp .Mult) (LV2 X.K mulTD) := by
  intro pins s σ H x y v u Q I rx ry h
  obtain ⟨hc, m, dx, dy, P, w, h1, h2, f, fin⟩ := h
  unfold mulTD at f
  split at f
  · rename_i z n
    unfold RepW Rep at h1 h2
    subst h1; subst h2
    obtain ⟨⟨n0, n1, l0, l1⟩, k⟩ := f
    obtain ⟨t, rfl⟩ := rx
    obtain ⟨t', rfl⟩ := ry
    have n2 : z.length * n.toNat ≤ 1000 * 1000 := Nat.mul_le_mul l1 (by omega)
    have fz := fin _ k _ _ (.refl H) rep_str
    refine PySem.P.mul_str (by rw [decide_eq_false (by omega), decide_eq_false (by omega)]; rfl) (fun h _ => ?_) (fun _ _ => ?_) ?_
    · have h3 : (2 ^ 63 - 1) / 1000 ≤ (2 ^ 63 - 1) / n := by
        have a : (2 ^ 63 - 1 : Int) / 1000 * n ≤ 2 ^ 63 - 1 := by
          have b : (2 ^ 63 - 1 : Int) / 1000 * n ≤ (2 ^ 63 - 1) / 1000 * 1000 := Int.mul_le_mul_of_nonneg_left n1 (by decide)
          omega
        exact (Int.le_ediv_iff_mul_le (by omega)).mpr a
      omega
    · unfold Builtin.Str.tooLong
      rw [decide_eq_false]
      rw [sizeLine_eq]
      omega
    · by_cases a : n < 1
      · rw [if_pos a]
        have e : repS z n = Str.empty := by
          obtain rfl : n = 0 := by omega
          rfl
        rw [e] at fz
        exact ⟨by decide, .str _, H, I.tok _, ⟨_, rfl⟩, fz⟩
      · rw [if_neg a]
        by_cases b : n = 1
        · subst b
          rw [if_pos (by rfl)]
          have e : repS z 1 = z := by
            cases z
            unfold repS
            simp
          rw [e] at fz
          exact ⟨.str _, H, I, ⟨_, rfl⟩, fz⟩
        · rw [if_neg (by
            rw [Bool.or_eq_true, beq_iff_eq, beq_iff_eq]
            omega)]
          rw [← repS_fold]
          refine ⟨?_, .str _, H, I.tok _, ⟨_, rfl⟩, fz⟩
          have e : (repS z n).length = n.toNat * z.length := by
            show ((List.replicate n.toNat z.cps.toList).flatten.toArray).size = _
            rw [List.size_toArray, List.length_flatten, List.map_replicate, List.sum_replicate_nat]
            rfl
          rw [e, Nat.mul_comm, sizeLine_eq]
          omega
  · exact f.elim
def inXD : O2 := fun x y hc P => match y with
  | .str z => match x with
    | .str s => ∃ c : Nat, s = ⟨#[c]⟩ ∧ P (.bl (decide (c ∈ z.cps.toList)))
    | _ => False
  | _ => inD x y hc P
theorem op_inXD {k : Nat} (g : RG k X.A) : OpR X (compareOp .In) (LV2 X.K inXD) := by
  intro pins s σ H x y v u Q I rx ry h
  obtain ⟨hc, m, dx, dy, P, w, h1, h2, f, fin⟩ := h
  unfold inXD at f
  split at f
  · split at f
    · unfold RepW Rep at h1 h2
      subst h1; subst h2
      obtain ⟨c, rfl, k⟩ := f
      exact op_in_sign pins s σ H _ _ v u Q I rx ry ⟨c, _, rfl, rfl, fin _ k _ _ (.refl H) rep_blv⟩
    · exact f.elim
  · exact op_inDD g pins s σ H x y v u Q I rx ry ⟨hc, m, dx, dy, P, w, h1, h2, f, fin⟩
end
/-! ### a text walked -/
def signsD (z : Str) : List D := z.cps.toList.map fun c => D.str ⟨#[c]⟩
theorem signs_at {z : Str} {i : Nat} {d : D} (h : (signsD z)[i]? = some d) : ∃ c, z.cps[i]? = some c ∧ d = .str ⟨#[c]⟩ := by
  unfold signsD at h
  rw [List.getElem?_map, Array.getElem?_toList] at h
  cases e : z.cps[i]? with
  | none => rw [e] at h; cases h
  | some c => rw [e] at h; cases h; exact ⟨c, rfl, rfl⟩
theorem signs_len {z : Str} : (signsD z).length = z.length := by
  unfold signsD
  rw [List.length_map, Array.length_toList]
  rfl
def cItS (ce : CEx) : CIx := fun E sc hc P => ce E sc hc fun d hc1 => match d with | .str z => P (signsD z) hc1 | _ => False
section
variable {X : Cx} {W : WX} {tg e : Expr} {ce : CEx}
theorem ci_str (h : CE X W e ce) : CI X W tg e (cItS ce) := ⟨pi_wk (pi_str h.p) fun σ H R ⟨en, sc, hc, m, E, P, r, k, xo, fin⟩ =>
  ⟨en, sc, hc, m, E, _, r, k, xo, fun d hc1 p v H1 m1 x1 q => by
    cases d <;> try exact p.elim
    rename_i z
    unfold Rep at q
    subst q
    refine ⟨z, rfl, fin _ hc1 p _ H1 m1 x1 fun H2 m2 mo s2 i => ⟨fun d ed => ?_, fun hl => ?_⟩⟩
    · obtain ⟨c, ec, rfl⟩ := signs_at ed
      refine ⟨?_, fun x3 H3 ⟨e3, c', ec', e4⟩ => ?_⟩
      · exact (Array.getElem?_eq_some_iff.mp ec).1
      · rw [ec] at ec'; cases ec'
        subst e3; subst e4
        exact ⟨.refl _, rep_str⟩
    · rw [signs_len] at hl
      exact hl⟩⟩
end
theorem e_ItS {ce : CEx} {E : XP} {sc : List Sl} {hc : CH} {P : List D → CH → Prop} : cItS ce E sc hc P = ce E sc hc fun d hc1 => match d with | .str z => P (signsD z) hc1 | _ => False := rfl
/-! ### enumerate of a text -/
/-- the signs of x, each in a new pair -/
def IteS (x : Str) : It :=
  ⟨fun i _ => i < x.cps.size, fun i H v H2 => ∃ N c, v = .ref N ∧ H N = none ∧ H2 = upd H N (.tup [.int (i : Nat), .str ⟨#[c]⟩]) ∧ x.cps[i]? = some c, fun i _ => x.cps.size ≤ i⟩
theorem turn_enS {P : Program} {w : World} {K : PySem.W.Frag} {elts : List Expr} {kk : Nat} {tpos : Pos} (x : Str) (t : Tok) (e it : Addr) :
    Turn P w K (.Tuple elts kk tpos) (IteS x) [e, it] e (fun i h => (∃ old, IsEnum h e it ((i : Nat) : Int) old) ∧ h.IsStrIter it (strIterType x) x t i ∧ e ≠ it) where
  mem := List.mem_cons_self ..
  obj := fun i h st b hb => by
    obtain ⟨⟨old, ie⟩, ⟨o, ho, hcl, hdt⟩, _⟩ := st
    rcases List.mem_cons.mp hb with rfl | hb
    · exact ⟨_, ie, fun v q => nomatch q⟩
    · cases List.mem_singleton.mp hb
      exact ⟨o, ho, fun v q => by rw [hdt] at q; cases q⟩
  keep := fun i h h2 st k => by
    obtain ⟨⟨old, ie⟩, ⟨o, ho, r⟩, ne⟩ := st
    exact ⟨⟨old, k e (List.mem_cons_self ..) _ ie⟩, ⟨o, k it (List.mem_cons_of_mem _ (List.mem_singleton_self _)) o ho, r⟩, ne⟩
  item := by
    intro X eP ew eK cal i pins s σ H E I apart st gd
    subst eP ew eK
    obtain ⟨⟨old, ie⟩, hit, ne⟩ := st
    have le : e < s.heap.objs.size := Heap.lt_size ie
    have li : it < s.heap.objs.size := by obtain ⟨_, q, _⟩ := hit; exact Heap.lt_size q
    have D := Draws.text (prog := X.prog) (w := X.w) (A := X.A.in1) (I.ok.hd cal) it x t
    refine wpAny_pyNext_enum_itemD D ie hit gd ne ?_ fun y h2 tk hy out st2 hN hsz hk => ?_
    · intro q
      exact ne (List.mem_singleton.mp q)
    obtain ⟨c, u, hc, rfl⟩ := hy
    refine ⟨_, rfl, wpAny_letOwnedTupleGo_enum (s := { s with heap := h2, toks := tk + 1 }) out fun h3 ie3 sb => ?_⟩
    have hN3 : h3.get? s.heap.objs.size = some { cls := .type "tuple", data := .seq #[.int i tk, .str ⟨#[c]⟩ u] } := (sb.2 _ (Nat.ne_of_gt le)).trans hN
    have new : ObjOk X.prog X.w (upd H s.heap.objs.size (.tup [.int (i : Nat), .str ⟨#[c]⟩])) h3 s.heap.objs.size (.tup [.int (i : Nat), .str ⟨#[c]⟩]) :=
      ⟨show 2 ≤ sizeLine by decide, [.int i tk, .str ⟨#[c]⟩ u], .cons ⟨_, rfl⟩ (.cons ⟨_, rfl⟩ .nil), ⟨_, hN3, rfl, _, rfl⟩⟩
    have I1 : Inv X pins σ (upd H s.heap.objs.size (.tup [.int (i : Nat), .str ⟨#[c]⟩])) { s with heap := h3, toks := tk + 1 } :=
      I.turnedNew (t' := tk + 1) (ch := [e, it]) (fun b ob hb q => (sb.2 b (fun z => hb (z ▸ List.mem_cons_self ..))).trans (hk b ob (fun z => hb (z ▸ List.mem_cons_self ..)) (fun z => hb (z ▸ List.mem_cons_of_mem _ (List.mem_singleton_self _))) q)) apart (Nat.le_refl _) new
    have sit : h3.IsStrIter it (strIterType x) x t (i + 1) := by
      obtain ⟨o, ho, r⟩ := st2
      exact ⟨o, (sb.2 it (Ne.symm ne)).trans ho, r⟩
    refine ⟨.ref s.heap.objs.size, _, I1, rfl, ⟨_, c, rfl, I.hok.fresh (Nat.le_refl _), rfl, hc⟩, ⟨⟨.str ⟨#[c]⟩ u, ?_⟩, sit, ne⟩, fun b hb => ?_⟩
    · rw [show ((i + 1 : Nat) : Int) = (i : Int) + 1 by omega]
      exact ie3
    · have lb : b < s.heap.objs.size := by
        rcases List.mem_cons.mp hb with rfl | hb
        · exact le
        · cases List.mem_singleton.mp hb
          exact li
      exact (upd_ne (Nat.ne_of_lt lb)).trans (apart b hb).1
  done := by
    intro X eP ew eK cal i pins s σ H E I apart st gd
    subst eP ew eK
    obtain ⟨⟨old, ie⟩, hit, ne⟩ := st
    obtain ⟨f0, f1, f2, f3, f4, f5⟩ := apart it (List.mem_cons_of_mem _ (List.mem_singleton_self _))
    have hT : s.TypeIs (.ref e) "enumerate" := ⟨_, ie, rfl⟩
    unfold pyNext
    refine wpAny_bind (wpAny_attempt (wpAny_callSpecial?_slot (name := Str.ofString "__next__") hT F.slot_enumerate_next
      (wpAny_call_entry F.slot_enumerate_next hT F.entry_enumerate_next ?_ (F.args_enumerate_next_1 _))))
    show wpAny _ _ (field (.ref e) 2 >>= _) _ _ _
    refine wpAny_bind (wpAny_field ie rfl (x := .ref it) rfl ?_)
    have nx : ∀ {Q E2 : Value → Shared → Prop}, (∀ h2 x, Heap.ExtBut it s.heap h2 → (∃ o, h2.get? x = some o ∧ o.cls = .type "StopIteration") → E2 (.ref x) { s with heap := h2 }) → wpAny (model X.prog X.w) X.A.in1 (Builtin.SmallTypes.nextOf (.ref it)) Q E2 s := fun {Q E2} q => by
      have hx : x.cps[i]? = none := Array.getElem?_eq_none gd
      cases ha : x.cps.all (· < 128)
      · simp only [strIterType, ha, Bool.false_eq_true, if_false] at hit
        exact wpAny_nextOf_wide_end (I.ok.hd cal) hit hx q
      · simp only [strIterType, ha, if_true] at hit
        exact wpAny_nextOf_ascii_end (I.ok.hd cal) hit hx q
    refine wpAny_bind (nx fun h2 x eb hx => ?_)
    obtain ⟨o, ho, hcl⟩ := hx
    refine wpAny_bind (wpAny_isInstance (T := "StopIteration") (b := true) ⟨o, ho, hcl⟩ isSubtype_stop ?_)
    exact wpAny_pure ⟨rfl, I.turned (t' := s.toks) (fun b o hb q => eb b o hb q) f0 f1 f3 f4 f5⟩
  self := fun A i s Q E st y => by
    obtain ⟨⟨_, ie⟩, _⟩ := st
    exact wpAny_pyIter_enum ie y
def iEnS (ta : TA) : TI := fun σ H R => ta σ H fun vs H1 => ∃ x, vs = [.str x] ∧ R (IteS x) H1
theorem pi_enS {X : Cx} {e : Expr} {ta : TA} {p pos tpos : Pos} {elts : List Expr} {kk : Nat} (hg : Gl X "enumerate") (hm : X.mg "enumerate" = none) (ha : PA X [e] ta) (hs : starEach [e] X.env = [(false, eval e X.env)] := by rfl) :
    PI X (.Tuple elts kk tpos) (.Call (.Name "enumerate" p) [e] [] pos) (iEnS ta) := by
  refine ⟨fun pins s σ H R I y => ?_⟩
  refine Call_ (ld_blt I hg hm boot_enumerate (PyProof.Rows.callWith_type1 (thn (ha.run pos pins s σ H _ I y) fun us s1 ⟨vs, H1, I1, r1, q1⟩ => ?_) hs rfl))
  obtain ⟨x, ev, q⟩ := q1
  subst ev
  cases r1 with
  | cons r rr =>
    cases rr
    obtain ⟨t, rfl⟩ := r
    have ap : ∀ b ∈ [s1.heap.objs.size + 1, s1.heap.objs.size], s1.heap.objs.size ≤ b := fun b hb => by
      rcases List.mem_cons.mp hb with rfl | hb
      · exact Nat.le_add_right _ _
      · cases List.mem_singleton.mp hb
        exact Nat.le_refl _
    refine enum_call (begins_text x t) trivial fun h2 ie hit hk => wpAny_pyIter_enum ie ?_
    have I2 : Inv X pins σ H1 { s1 with heap := h2 } := I1.kept (t' := s1.toks) hk
    exact ⟨s1.heap.objs.size + 1, [s1.heap.objs.size + 1, s1.heap.objs.size], _, _, H1, rfl, I2, turn_enS x t (s1.heap.objs.size + 1) s1.heap.objs.size, ⟨⟨.none, ie⟩, ⟨_, hit, rfl, rfl⟩, Nat.succ_ne_self _⟩, fun b hb => I1.fpOk (ap b hb) (I1.hok.fresh (ap b hb)), q⟩
def enuSP (ds : List D) (P : List D → CH → Prop) (hc : CH) : Prop := match ds with
  | [.str z] => P (enuL (signsD z)) hc
  | _ => False
def cEnumS (c1 : CEx) : CIx := fun E sc hc P => cCons c1 cNil E sc hc fun ds hc1 => enuSP ds P hc1
theorem ci_enumS {X : Cx} {W : WX} {elts : List Expr} {kk : Nat} {tpos p pos : Pos} {e : Expr} {c1 : CEx} (hm : X.mg "enumerate" = none) (h1 : CE X W e c1) (hg : Gl X "enumerate" := by rfl) (hs : starEach [e] X.env = (false, eval e X.env) :: starEach [] X.env := by rfl) (hs1 : starEach [e] X.env = [(false, eval e X.env)] := by rfl) :
    CI X W (.Tuple elts kk tpos) (.Call (.Name "enumerate" p) [e] [] pos) (cEnumS c1) := ⟨pi_wk (pi_enS hg hm (ca_cons h1 ca_nil hs).p hs1) fun σ H R ⟨en, sc, hc, m, E, P, r, k, xo, fin⟩ =>
  ⟨en, sc, hc, m, E, fun ds hc1 => enuSP ds P hc1, r, k, xo, fun ds hc1 pz vs H1 m1 x1 q => by
    have mu1 := (r.call x1).mu
    have pz : enuSP ds P hc1 := pz
    unfold enuSP at pz
    split at pz
    · rename_i z _
      unfold RepL at q
      obtain ⟨v1, r1, rfl, qa, q⟩ := q
      unfold RepL at q
      subst q
      unfold Rep at qa
      subst qa
      refine ⟨z, rfl, fin _ hc1 pz _ H1 m1 x1 fun H2 m2 mo s2 i => ⟨fun d ed => ?_, fun hl => ?_⟩⟩
      · obtain ⟨y, ey, rfl⟩ := enu_at ed
        obtain ⟨c, ec, rfl⟩ := signs_at ey
        refine ⟨(Array.getElem?_eq_some_iff.mp ec).1, fun x3 H3 ⟨T, c', e3, nT, eH, ec'⟩ => ?_⟩
        rw [ec] at ec'; cases ec'
        subst e3
        subst eH
        exact ⟨same_upd nT, rep_tup mo nT (RepL.cons rep_int (RepL.cons rep_str RepL.nil))⟩
      · rw [enu_len, signs_len] at hl
        exact hl
    · exact pz.elim⟩⟩
theorem e_EnumS {c1 : CEx} {E : XP} {sc : List Sl} {hc : CH} {P : List D → CH → Prop} : cEnumS c1 E sc hc P = cCons c1 cNil E sc hc fun ds hc1 => enuSP ds P hc1 := rfl
theorem o_enS {z : Str} {hc : CH} {P : List D → CH → Prop} : enuSP [.str z] P hc = P (enuL (signsD z)) hc := rfl
/-! ### join, index -/
theorem repl_strs_of {K : PySem.W.Frag} {H : Hp} {m : Ms} : ∀ {ns : List Str} {vs : List V}, RepL K H m (ns.map D.str) vs → vs = ns.map V.str
  | [], vs, h => by unfold List.map RepL at h; exact h
  | n :: ns, vs, h => by
    unfold List.map RepL at h
    obtain ⟨v, r, rfl, h1, h2⟩ := h
    unfold Rep at h1
    rw [h1, repl_strs_of h2]
    rfl
def cJn (ca cb : CEx) : CEx := fun E sc hc P => ca E sc hc fun d hc1 => match d with
  | .str a => cb E sc hc1 fun d2 hc2 => match d2 with
    | .lst xs => ∃ ys : List Str, xs = ys.map D.str ∧ (ys.map (·.length)).sum + ys.length * a.length ≤ 16777216 ∧ P (.str (Txt.join a ys)) hc2
    | _ => False
  | _ => False
def cIxS (ca cb : CEx) : CEx := fun E sc hc P => ca E sc hc fun d hc1 => match d with
  | .str a => cb E sc hc1 fun d2 hc2 => match d2 with
    | .str b => ∃ (i : Nat) (rest : List Nat), Builtin.Str.occurrences a b 0 a.length 1 = i :: rest ∧ P (.int (i : Int)) hc2
    | _ => False
  | _ => False
section
variable {X : Cx} {W : WX} {e e2 : Expr} {ca cb : CEx} {apos pos : Pos}
theorem ce_join (h : CE X W e ca) (h2 : CE X W e2 cb) (hs : starEach [e2] X.env = (false, eval e2 X.env) :: starEach [] X.env := by rfl)
    (hb : attributeBase e "join" X.env (eval e X.env) = eval e X.env := by rfl)
    (hfew : ((backTo pos (starEach [e2] X.env)).all (fun x => !x.1) && (backToKw pos (keywordEach [] X.env)).all (fun x => x.1.isSome)
      && decide ([e2].length + ([] : List Keyword).length + (if ([] : List Keyword).isEmpty then 0 else 1) < 30)) = true := by rfl)
    (hl : (apos.endLine == pos.line) = true := by rfl) : CE X W (.Call (.Attribute e "join" apos) [e2] [] pos) (cJn ca cb) :=
  ⟨pe_wk (pe_bm PySem.F.plainAttrs_str PySem.F.slot_str_join PySem.F.type_str_join mt_join h.p (pa_cons h2.p pa_nil hs) hb hfew hl hs) fun σ H Q ⟨en, sc, hc, m, E, P, r, k, xo, fin⟩ =>
    ⟨en, sc, hc, m, E, _, r, k, xo, fun d hc1 p v H1 m1 x1 q => by
      cases d <;> try exact p.elim
      rename_i a
      unfold Rep at q
      subst q
      exact ⟨rfl, en, sc, hc1, m1, E, _, r.call x1, p, xo, fun d2 hc2 p2 v2 H2 m2 x2 q2 => by
        cases d2 <;> try exact p2.elim
        rename_i xs
        unfold Rep at q2
        obtain ⟨p3, vs, rfl, na, ha, la⟩ := q2
        obtain ⟨ys, rfl, sz, pd⟩ := p2
        rw [repl_strs_of la] at ha
        exact ⟨a, p3, ys, rfl, rfl, .inl (.of ha), sz, fin _ hc2 pd _ H2 m2 (x1.trans x2) rep_str⟩⟩⟩⟩
theorem ce_index (h : CE X W e ca) (h2 : CE X W e2 cb) (hs : starEach [e2] X.env = (false, eval e2 X.env) :: starEach [] X.env := by rfl)
    (hb : attributeBase e "index" X.env (eval e X.env) = eval e X.env := by rfl)
    (hfew : ((backTo pos (starEach [e2] X.env)).all (fun x => !x.1) && (backToKw pos (keywordEach [] X.env)).all (fun x => x.1.isSome)
      && decide ([e2].length + ([] : List Keyword).length + (if ([] : List Keyword).isEmpty then 0 else 1) < 30)) = true := by rfl)
    (hl : (apos.endLine == pos.line) = true := by rfl) : CE X W (.Call (.Attribute e "index" apos) [e2] [] pos) (cIxS ca cb) :=
  ⟨pe_wk (pe_bm PySem.F.plainAttrs_str PySem.F.slot_str_index PySem.F.type_str_index mt_sindex h.p (pa_cons h2.p pa_nil hs) hb hfew hl hs) fun σ H Q ⟨en, sc, hc, m, E, P, r, k, xo, fin⟩ =>
    ⟨en, sc, hc, m, E, _, r, k, xo, fun d hc1 p v H1 m1 x1 q => by
      cases d <;> try exact p.elim
      rename_i a
      unfold Rep at q
      subst q
      exact ⟨rfl, en, sc, hc1, m1, E, _, r.call x1, p, xo, fun d2 hc2 p2 v2 H2 m2 x2 q2 => by
        cases d2 <;> try exact p2.elim
        rename_i b
        unfold Rep at q2
        subst q2
        obtain ⟨i, rest, eo, pd⟩ := p2
        exact ⟨a, b, i, rest, rfl, rfl, eo, fin _ hc2 pd _ H2 m2 (x1.trans x2) rep_int⟩⟩⟩⟩
end
theorem e_Jn {ca cb : CEx} {E : XP} {sc : List Sl} {hc : CH} {P : D → CH → Prop} : cJn ca cb E sc hc P = ca E sc hc fun d hc1 => match d with
  | .str a => cb E sc hc1 fun d2 hc2 => match d2 with
    | .lst xs => ∃ ys : List Str, xs = ys.map D.str ∧ (ys.map (·.length)).sum + ys.length * a.length ≤ 16777216 ∧ P (.str (Txt.join a ys)) hc2
    | _ => False
  | _ => False := rfl
theorem e_IxS {ca cb : CEx} {E : XP} {sc : List Sl} {hc : CH} {P : D → CH → Prop} : cIxS ca cb E sc hc P = ca E sc hc fun d hc1 => match d with
  | .str a => cb E sc hc1 fun d2 hc2 => match d2 with
    | .str b => ∃ (i : Nat) (rest : List Nat), Builtin.Str.occurrences a b 0 a.length 1 = i :: rest ∧ P (.int (i : Int)) hc2
    | _ => False
  | _ => False := rfl
/-! ### int(text), up to 4300 signs; int(text, 16) -/
theorem lim_ok {M : Model} {A : Around} {E : Value → Shared → Prop} {s : Shared} {Q : Nat → Shared → Prop} (S : Stat s.heap) (k : Q 4300 s) : wpAny M A Builtin.intMaxStrDigits Q E s := by
  obtain ⟨⟨mc, N, z⟩, _⟩ := S
  unfold Builtin.intMaxStrDigits
  refine wpAny_bind (wpAny_nsGet N ?_)
  rw [z]
  exact wpAny_pure k
theorem wp_textL {M : Model} {A : Around} {E : Value → Shared → Prop} {s : Shared} {Q : Value → Shared → Prop} {v : Value} {text : List Nat} {n : Int} (S : Stat s.heap)
    (hs : ¬ (text.takeWhile (· != 0)).length ≤ 640) (hr : (int_private% "readNumeral") 4300 10 (text.takeWhile (· != 0)) = (int_private% "Numeral.value") n)
    (ha : ((text.takeWhile (· != 0)).length == text.length) = true) (h : Q (.int n s.toks) { s with toks := s.toks + 1 }) :
    wpAny M A ((int_private% "intFromText") v text 10) Q E s := by
  have go : ∀ {A2 : Around} {E2 : Value → Shared → Prop} {Q2 : Nat → Shared → Prop}, Q2 4300 s → wpAny M A2 Builtin.intMaxStrDigits Q2 E2 s := fun q => lim_ok S q
  obtain ⟨hp, g, d, tk, os⟩ := s
  repeat (any_goals (first
    | assumption
    | (with_reducible refine go ?_)
    | (with_reducible refine wpAny_ite_false (decide_eq_false hs) ?_)
    | (with_reducible refine wpAny_ite_true (decide_eq_true ha) ?_)
    | wp_step))
  all_goals (try rw [hr])
  all_goals (try dsimp only)
  repeat (any_goals (first
    | assumption
    | (with_reducible refine go ?_)
    | (with_reducible refine wpAny_ite_false (decide_eq_false hs) ?_)
    | (with_reducible refine wpAny_ite_true (decide_eq_true ha) ?_)
    | wp_step))
structure HidL (p : Prop) : Prop where
  out : p
set_option maxHeartbeats 4000000 in
open PySem.W.KIN in
theorem meets_textL {x : PySem.Str} {u : Tok} {n : Int} (hl : ¬ (numSeenOf x).length ≤ 640) (hx : x.length ≤ sizeLine) (hn : PySem.intText? x = some n) :
    Meets (Builtin.«int.__new__» ⟨[.type "int", .str x u], []⟩) (fun _ R s => Stat s.heap ∧ R (.ok (.ret (.int n s.toks))) { s with toks := s.toks + 1 }) := fun prog w A R s ⟨S, h⟩ => by
  have h2 : wpAny (model prog w) A.in1 (Builtin.«int.__new__» ⟨[.type "int", .str x u], []⟩) (fun fin s' => ∃ v, fin = .done (.ret v) ∧ R (.ok (.ret v)) s') (fun e s' => R (.error e) s') s := by
    have f1 := PySem.F.conv_sub_int
    have f2 := PySem.F.madeHere_int
    have f3 := str_int
    have f4 := str_idx
    have f5 := str_trunc
    have f6 : typeOf (.str x u) = pure (.type "str") := rfl
    have hr : (int_private% "readNumeral") 4300 10 (numSeenOf x) = (int_private% "Numeral.value") n ∧ ((numSeenOf x).length == (numTextOf x).length) = true := by
      rcases read4300 x hx with ⟨m, h1, h2, h3⟩ | ⟨h1, _⟩
      · rw [hn] at h1
        injection h1 with h1
        subst h1
        exact ⟨h3, h2⟩
      · rw [hn] at h1
        cases h1
    have hk := HidL.mk (And.intro S (And.intro hl hr))
    clear S hl hr hn hx
    obtain ⟨hp, g, d, tk, os⟩ := s
    repeat (any_goals (first
      | assumption
      | ((with_reducible show wpAny _ _ ((int_private% "intFromText") _ _ _) _ _ _); refine wp_textL hk.out.1 hk.out.2.1 hk.out.2.2.1 hk.out.2.2.2 ?_)
      | wp_step))
    all_goals first | exact ⟨_, rfl, h⟩ | skip
  exact wpAny_mono h2 (fun fin s' h' => by obtain ⟨v, rfl, hv⟩ := h'; exact hv) fun _ _ x => x
theorem seen_digits {x : PySem.Str} (h : PySem.NumText.AllDigits x.cps.toList) : (numSeenOf x).length = x.length := by
  obtain ⟨e1, e2⟩ := PySem.numText_signs fun c hc => Or.inr (h c hc)
  first
    | rw [e2, Array.length_toList]; rfl
    | rw [e1, Array.length_toList]; rfl
theorem call_textL {prog : Program} {w : World} {A : Around} {E : Value → Shared → Prop} {s : Shared} {Q : Value → Shared → Prop} {x : PySem.Str} {t : Tok} (S : Stat s.heap) (hd : PySem.NumText.AllDigits x.cps.toList) (h1 : x.cps.toList ≠ []) (hx : x.length ≤ 4300)
    (h : Q (.int ((PySem.NumText.digitsVal x.cps.toList : Nat) : Int) s.toks) { s with toks := s.toks + 1 }) : wpAny (model prog w) A (call (.type "int") [.str x t]) Q E s := by
  have hn := PySem.intText_digits hd h1 hx
  by_cases hl : x.length ≤ 640
  · exact PySem.W.KIN.call_text hn hl h
  · exact call_int_1 (meets_textL (by rw [seen_digits hd]; exact hl) (by rw [sizeLine_eq]; omega) hn) ⟨S, rfl, h⟩
def intTD : On := fun ds _ P => match ds with
  | [.int i] => P (.int i)
  | [.bl b] => P (.int (if b then 1 else 0))
  | [.str a] => (PySem.NumText.AllDigits a.cps.toList ∧ a.cps.toList ≠ [] ∧ a.length ≤ 4300) ∧ P (.int ((PySem.NumText.digitsVal a.cps.toList : Nat) : Int))
  | [.str a, .int 16] => ((∀ c ∈ a.cps.toList, Hx.IsHex c) ∧ a.cps.toList ≠ [] ∧ a.length ≤ 640) ∧ P (.int ((Hx.hexNum a.cps.toList : Nat) : Int))
  | _ => False
theorem bt_intT {X : Cx} (st : statK X.K = true) : CallR X (.type "int") (LVn X.K intTD) := by
  intro pins s σ H xs us Q I r h
  obtain ⟨hc, m, ds, P, w, h1, f, fin⟩ := h
  unfold intTD at f
  split at f
  · obtain ⟨x, rfl, k1⟩ := wl1 h1
    unfold RepW Rep at k1
    subst k1
    exact call_int1 pins s σ H _ us Q I r (.inl ⟨_, rfl, fin _ f _ _ (.refl H) rep_int⟩)
  · obtain ⟨x, rfl, k1⟩ := wl1 h1
    unfold RepW Rep at k1
    subst k1
    exact call_int1 pins s σ H _ us Q I r (.inr ⟨_, rfl, fin _ f _ _ (.refl H) rep_int⟩)
  · obtain ⟨x, rfl, k1⟩ := wl1 h1
    unfold RepW Rep at k1
    subst k1
    obtain ⟨⟨f1, f2, f3⟩, f4⟩ := f
    obtain ⟨u, rfl, ru⟩ := vals1 r
    obtain ⟨t, rfl⟩ := ru
    exact call_textL (stat_of I.kIn I.nolimit st) f1 f2 f3 ⟨.int _, H, I.tok _, ⟨_, rfl⟩, fin _ f4 _ _ (.refl H) rep_int⟩
  · obtain ⟨x, y, rfl, k1, k2⟩ := wl2 h1
    unfold RepW Rep at k1 k2
    subst k1; subst k2
    obtain ⟨⟨f1, f2, f3⟩, f4⟩ := f
    rename_i a
    exact call_int_hex pins s σ H _ us Q I r ⟨a.cps.toList, rfl, f2, f3, f1, fin _ f4 _ _ (.refl H) rep_int⟩
  · exact f.elim
theorem o_iT1 {i : Int} {hc : CH} {P : D → Prop} : intTD [.int i] hc P = P (.int i) := rfl
theorem o_iT2 {b : Bool} {hc : CH} {P : D → Prop} : intTD [.bl b] hc P = P (.int (if b then 1 else 0)) := rfl
theorem o_iT3 {a : Str} {hc : CH} {P : D → Prop} : intTD [.str a] hc P = ((PySem.NumText.AllDigits a.cps.toList ∧ a.cps.toList ≠ [] ∧ a.length ≤ 4300) ∧ P (.int ((PySem.NumText.digitsVal a.cps.toList : Nat) : Int))) := rfl
theorem o_iT4 {a : Str} {hc : CH} {P : D → Prop} : intTD [.str a, .int 16] hc P = (((∀ c ∈ a.cps.toList, Hx.IsHex c) ∧ a.cps.toList ≠ [] ∧ a.length ≤ 640) ∧ P (.int ((Hx.hexNum a.cps.toList : Nat) : Int))) := rfl
theorem o_mT {x : Str} {n : Int} {hc : CH} {P : D → Prop} : mulTD (.str x) (.int n) hc P = ((0 ≤ n ∧ n ≤ 1000 ∧ 0 < x.length ∧ x.length ≤ 1000) ∧ P (.str (repS x n))) := rfl
theorem o_xS {s z : Str} {hc : CH} {P : D → Prop} : inXD (.str s) (.str z) hc P = ∃ c : Nat, s = ⟨#[c]⟩ ∧ P (.bl (decide (c ∈ z.cps.toList))) := rfl
theorem o_xT {x : D} {ys : List D} {hc : CH} {P : D → Prop} : inXD x (.tup ys) hc P = inD x (.tup ys) hc P := rfl
theorem o_xL {x : D} {ys : List D} {hc : CH} {P : D → Prop} : inXD x (.lst ys) hc P = inD x (.lst ys) hc P := rfl
end Mn

namespace Lk12
open PySem L2 Mn

def topS (i : Nat) : Stmt := PySem.Challenge.pw_numbertexts_k12_number_texts_parsed.main.body.getD i (.Pass ⟨0, 0, 0, 0⟩)

abbrev s__law_deck : Stmt := topS 17
theorem sc__law_deck : FnScope ["_law_script", "_law_cell"] ["_law_script"] (defScope s__law_deck) := ⟨rfl, rfl, rfl, by decide +kernel, rfl, by decide +kernel, by decide +kernel⟩

abbrev s__law_draw : Stmt := topS 18
theorem sc__law_draw : FnScope ["_law_deck_here", "_law_many", "_law_place", "_law_cell", "_law_mixed"] ["_law_deck_here", "_law_many"] (defScope s__law_draw) := ⟨rfl, rfl, rfl, by decide +kernel, rfl, by decide +kernel, by decide +kernel⟩

abbrev s__law_digits : Stmt := topS 20
theorem sc__law_digits : FnScope ["_law_deck_here", "_law_signs", "_law_most", "_law_many", "_law_k"] ["_law_deck_here", "_law_signs", "_law_most"] (defScope s__law_digits) := ⟨rfl, rfl, rfl, by decide +kernel, rfl, by decide +kernel, by decide +kernel⟩

abbrev s__law_dotted : Stmt := topS 21
theorem sc__law_dotted : FnScope ["_law_deck_here", "_law_digits_here", "_law_at"] ["_law_deck_here", "_law_digits_here"] (defScope s__law_dotted) := ⟨rfl, rfl, rfl, by decide +kernel, rfl, by decide +kernel, by decide +kernel⟩

abbrev s__law_power : Stmt := topS 22
theorem sc__law_power : FnScope ["_law_deck_here", "_law_most", "_law_number", "_law_sign", "_law_zeros"] ["_law_deck_here", "_law_most"] (defScope s__law_power) := ⟨rfl, rfl, rfl, by decide +kernel, rfl, by decide +kernel, by decide +kernel⟩

abbrev s__law_read : Stmt := topS 19
theorem sc__law_read : FnScope ["_law_digits_here", "_law_base", "_law_found", "_law_sign"] ["_law_digits_here", "_law_base"] (defScope s__law_read) := ⟨rfl, rfl, rfl, by decide +kernel, rfl, by decide +kernel, by decide +kernel⟩

abbrev s__law_text : Stmt := topS 23
theorem sc__law_text : FnScope ["_law_deck_here", "_law_way", "_law_front", "_law_sign", "_law_digits_here", "_law_shown", "_law_behind", "_law_power_here", "_law_k"] ["_law_deck_here"] (defScope s__law_text) := ⟨rfl, rfl, rfl, by decide +kernel, rfl, by decide +kernel, by decide +kernel⟩

abbrev s_scan_word : Stmt := topS 12
theorem sc_scan_word : FnScope ["text", "at", "word", "index", "sign"] ["text", "at", "word"] (defScope s_scan_word) := ⟨rfl, rfl, rfl, by decide +kernel, rfl, by decide +kernel, by decide +kernel⟩

abbrev s_scan_digits : Stmt := topS 10
theorem sc_scan_digits : FnScope ["text", "at", "signs", "most", "digits", "front"] ["text", "at", "signs", "most"] (defScope s_scan_digits) := ⟨rfl, rfl, rfl, by decide +kernel, rfl, by decide +kernel, by decide +kernel⟩

abbrev s_scan_power : Stmt := topS 11
theorem sc_scan_power : FnScope ["text", "at", "most", "is_minus", "found", "begin"] ["text", "at", "most"] (defScope s_scan_power) := ⟨rfl, rfl, rfl, by decide +kernel, rfl, by decide +kernel, by decide +kernel⟩

abbrev s_scan_hex : Stmt := topS 14
theorem sc_scan_hex : FnScope ["text", "at", "digits", "behind"] ["text", "at"] (defScope s_scan_hex) := ⟨rfl, rfl, rfl, by decide +kernel, rfl, by decide +kernel, by decide +kernel⟩

abbrev s_scan_decimal : Stmt := topS 13
theorem sc_scan_decimal : FnScope ["text", "at", "digits", "behind", "power"] ["text", "at"] (defScope s_scan_decimal) := ⟨rfl, rfl, rfl, by decide +kernel, rfl, by decide +kernel, by decide +kernel⟩

abbrev s_parse_text : Stmt := topS 15
theorem sc_parse_text : FnScope ["value", "sign", "at"] ["value"] (defScope s_parse_text) := ⟨rfl, rfl, rfl, by decide +kernel, rfl, by decide +kernel, by decide +kernel⟩

abbrev s_law : Stmt := topS 24
theorem sc_law : FnScope ["_law_script", "_law_deck_here", "_law_turn", "_law_text_here", "_law_due", "_law_texts", "_law_dues"] ["_law_script"] (defScope s_law) := ⟨rfl, rfl, rfl, by decide +kernel, rfl, by decide +kernel, by decide +kernel⟩

structure Txt (K : PySem.W.Frag) (mg : Str → Option Value) : Prop where
  d__law_deck : DefAt K mg "_law_deck" s__law_deck
  d__law_draw : DefAt K mg "_law_draw" s__law_draw
  d__law_digits : DefAt K mg "_law_digits" s__law_digits
  d__law_dotted : DefAt K mg "_law_dotted" s__law_dotted
  d__law_power : DefAt K mg "_law_power" s__law_power
  d__law_read : DefAt K mg "_law_read" s__law_read
  d__law_text : DefAt K mg "_law_text" s__law_text
  d_scan_word : DefAt K mg "scan_word" s_scan_word
  d_scan_digits : DefAt K mg "scan_digits" s_scan_digits
  d_scan_power : DefAt K mg "scan_power" s_scan_power
  d_scan_hex : DefAt K mg "scan_hex" s_scan_hex
  d_scan_decimal : DefAt K mg "scan_decimal" s_scan_decimal
  d_parse_text : DefAt K mg "parse_text" s_parse_text
  d_law : DefAt K mg "law" s_law
  n_abs : mg "abs" = none
  n_enumerate : mg "enumerate" = none
  n_int : mg "int" = none
  n_isinstance : mg "isinstance" = none
  n_len : mg "len" = none
  n_max : mg "max" = none
  n_range : mg "range" = none
  n_repr : mg "repr" = none
  n_str : mg "str" = none
  k_DIGITS : GlobC K mg "DIGITS" (.str "0123456789")
  k_HEX_DIGITS : GlobC K mg "HEX_DIGITS" (.str "0123456789abcdef")
  k_MOST_DIGITS : GlobC K mg "MOST_DIGITS" (.int 1300)
  k_MOST_HEX : GlobC K mg "MOST_HEX" (.int 300)
  k_MOST_HEX_POWER : GlobC K mg "MOST_HEX_POWER" (.int 1400)
  k_MOST_POWER : GlobC K mg "MOST_POWER" (.int 1200)
  lim : statK K = true

variable {P : Program} {w : World} {K : PySem.W.Frag} {mg : Str → Option Value} {base : Heap}

local macro_rules | `(tactic| walk_at "n") => `(tactic| try simp -implicitDefEqProofs only [e_V, e_C, e_Ch, e_AndV, e_OrV, e_NotV, e_O, e_Op, e_Un, e_Fn, e_Call, e_Nil, e_Cons, e_Tup, e_Lst, e_NoP, e_SoP, e_Sl, e_T, e_And, e_Or, e_Not, e_If, e_gN, e_Asg, e_Ret, e_RetN, e_Next, e_IfS, e_For, e_It, e_R1, e_R2, e_Drop, e_Par, e_Par3, e_App, e_SetO, e_Give, look_0, look_s, lookO_0, lookO_s, List.set_cons_zero, List.set_cons_succ, startC, List.map_cons, List.map_nil, List.cons_append, List.nil_append, List.length_cons, List.length_nil, List.replicate_zero, List.replicate_succ, List.append_nil, Nat.reduceAdd, Nat.reduceSub, if_true, Bool.false_eq_true, if_false, Bool.not_true, Bool.not_false, decide_true, decide_false, o_addI, o_addS, o_addL, o_addT, o_addR, o_addR', o_sub, o_mul, o_mulL, o_fdiv, o_mod, o_pow, o_shl, o_shr, o_and, o_or, o_neg, o_eqI, o_eqS, o_neI, o_neS, o_lt, o_le, o_gt, o_ge, o_ixL, o_ixT, o_ixR, o_abs, o_int, o_max, o_min, o_lenL, o_lenT, o_lenF, o_lenR, o_slL, o_slT, o_slF, at_0, at_1, at_2, at_3, at_4, o_rev, o_tupF, o_tupF2, o_lstF, o_lstF2, o_repr, e_gNil, o_intB, o_str, o_mulT, o_reprR, o_tupR, e_LstM, o_slR, e_gSubO, o_revBL, o_revBT, o_isN5, o_isN6, o_isN7, o_notN5, o_notN6, o_notN7, o_lenS, o_strS, o_isB, o_notB, o_isi1, o_isi2, o_isi3, o_isi4, o_isi5, o_isi6, o_isi7, o_isi8, ty_int_N, ty_int_B, ty_int_I, ty_int_S, ty_int_T, ty_int_L, ty_int_D, ty_bool_N, ty_bool_B, ty_bool_I, ty_bool_S, ty_bool_T, ty_bool_L, ty_bool_D, ty_str_N, ty_str_B, ty_str_I, ty_str_S, ty_str_T, ty_str_L, ty_str_D, ty_tuple_N, ty_tuple_B, ty_tuple_I, ty_tuple_S, ty_tuple_T, ty_tuple_L, ty_tuple_D, ty_list_N, ty_list_B, ty_list_I, ty_list_S, ty_list_T, ty_list_L, ty_list_D, ty_dict_N, ty_dict_B, ty_dict_I, ty_dict_S, ty_dict_T, ty_dict_L, ty_dict_D, o_catL, e_SetF, e_gCons, e_gUnT, e_gUnL, e_gTup, true_and, e_ParO, e_Star, wipe_0, wipe_s, o_bits, o_divmod, o_inL, o_inT, o_ninL, o_ninT, o_isN1, o_isN2, o_isN3, o_isN4, o_notN1, o_notN2, o_notN3, o_notN4, e_Match, e_arm0, e_arm1, e_arm2, e_Zip, o_zip, e_Ext, e_ParO2, e_LRg1, e_LRg2, e_Rs, e_R3, e_Enum, o_enL, o_all1, e_ItS, e_EnumS, o_enS, e_Jn, e_IxS, o_iT1, o_iT2, o_iT3, o_iT4, o_mT, o_xS, o_xT, o_xL, o_enT, e_SrtS])
local macro_rules | `(tactic| walk_at "x") => `(tactic| try simp -implicitDefEqProofs only [e_V, e_C, e_Ch, e_AndV, e_OrV, e_NotV, e_O, e_Op, e_Un, e_Fn, e_Call, e_Nil, e_Cons, e_Tup, e_Lst, e_NoP, e_SoP, e_Sl, e_T, e_And, e_Or, e_Not, e_If, e_gN, e_Asg, e_Ret, e_RetN, e_Next, e_IfS, e_For, e_It, e_R1, e_R2, e_Drop, e_Par, e_Par3, e_App, e_SetO, e_Give, look_0, look_s, lookO_0, lookO_s, List.set_cons_zero, List.set_cons_succ, startC, List.map_cons, List.map_nil, List.cons_append, List.nil_append, List.length_cons, List.length_nil, List.replicate_zero, List.replicate_succ, List.append_nil, Nat.reduceAdd, Nat.reduceSub, if_true, Bool.false_eq_true, if_false, Bool.not_true, Bool.not_false, decide_true, decide_false, o_addI, o_addS, o_addL, o_addT, o_addR, o_addR', o_sub, o_mul, o_mulL, o_fdiv, o_mod, o_pow, o_shl, o_shr, o_and, o_or, o_neg, o_eqI, o_eqS, o_neI, o_neS, o_lt, o_le, o_gt, o_ge, o_ixL, o_ixT, o_ixR, o_abs, o_int, o_max, o_min, o_lenL, o_lenT, o_lenF, o_lenR, o_slL, o_slT, o_slF, at_0, at_1, at_2, at_3, at_4, o_rev, o_tupF, o_tupF2, o_lstF, o_lstF2, o_repr, e_gNil, o_intB, o_str, o_mulT, o_reprR, o_tupR, e_LstM, o_slR, e_gSubO, o_revBL, o_revBT, o_isN5, o_isN6, o_isN7, o_notN5, o_notN6, o_notN7, o_lenS, o_strS, o_isB, o_notB, o_isi1, o_isi2, o_isi3, o_isi4, o_isi5, o_isi6, o_isi7, o_isi8, ty_int_N, ty_int_B, ty_int_I, ty_int_S, ty_int_T, ty_int_L, ty_int_D, ty_bool_N, ty_bool_B, ty_bool_I, ty_bool_S, ty_bool_T, ty_bool_L, ty_bool_D, ty_str_N, ty_str_B, ty_str_I, ty_str_S, ty_str_T, ty_str_L, ty_str_D, ty_tuple_N, ty_tuple_B, ty_tuple_I, ty_tuple_S, ty_tuple_T, ty_tuple_L, ty_tuple_D, ty_list_N, ty_list_B, ty_list_I, ty_list_S, ty_list_T, ty_list_L, ty_list_D, ty_dict_N, ty_dict_B, ty_dict_I, ty_dict_S, ty_dict_T, ty_dict_L, ty_dict_D, o_catL, e_SetF, e_gCons, e_gUnT, e_gUnL, e_gTup, true_and, e_ParO, e_Star, wipe_0, wipe_s, o_bits, o_divmod, o_inL, o_inT, o_ninL, o_ninT, o_isN1, o_isN2, o_isN3, o_isN4, o_notN1, o_notN2, o_notN3, o_notN4, e_Match, e_arm0, e_arm1, e_arm2, e_Zip, o_zip, e_Ext, e_ParO2, e_LRg1, e_LRg2, e_Rs, e_R3, e_Enum, o_enL, o_all1, e_ItS, e_EnumS, o_enS, e_Jn, e_IxS, o_iT1, o_iT2, o_iT3, o_iT4, o_mT, o_xS, o_xT, o_xL, o_enT, e_SrtS])
local macro_rules | `(tactic| walk_at "b") => `(tactic| simp -implicitDefEqProofs only [e_gN, e_gUnT, e_gUnL, e_gTup, e_gCons, e_gNil, List.set_cons_zero, List.set_cons_succ, List.length_cons, List.length_nil, Nat.reduceAdd, true_and])
local macro_rules | `(tactic| walk_at "l") => `(tactic| first | exact Nat.zero_lt_succ _ | exact Nat.le_of_ble_eq_true rfl | simp)

abbrev N__law_deck : List Str := ["_law_script", "_law_cell"]
def c__law_deck : CSx :=
  (cRet (cLstM (cCons (cLcM (cIt (cSl (cV 0) cNoP (cSoP (cC (.int 63))))) (gN 1) cYes (cFn absD (cCons (cV 1) cNil)) [1]) (cCons (cC (.int 0)) cNil))))

/-! ### the deck -/
/-- r is the deck, q its cells, at most N draws so far; all else is as in b -/
def Dk (b : CH) (r q : Addr) (N : Nat) (hc : CH) : Prop := r ≠ q ∧ (∃ (cells : List Int) (n : Int), hc r = some [.ref q, .int n] ∧ hc q = some (cells.map D.int) ∧ (∀ c ∈ cells, 0 ≤ c) ∧ cells.length ≤ 63 ∧ 0 ≤ n ∧ n ≤ N) ∧ ∀ a, a ≠ r → a ≠ q → hc a = b a
theorem Dk.mono {b : CH} {r q : Addr} {N M : Nat} {hc : CH} (h : Dk b r q N hc) (l : N ≤ M) : Dk b r q M hc := by
  obtain ⟨h1, ⟨cells, n, h2, h3, h4, h5, h6, h7⟩, h8⟩ := h
  exact ⟨h1, ⟨cells, n, h2, h3, h4, h5, h6, by omega⟩, h8⟩
theorem le18 {x : Int} (h : x ≤ 1000000000000000000) : x ≤ 10 ^ 18 := by
  have e : (10 : Int) ^ 18 = 1000000000000000000 := by decide
  omega


def sp__law_deck : Spc := fun ds hc Q _ => ∃ ns : List Int, ds = [.frz (ns.map D.int)] ∧ ns.length ≤ 63 ∧ ∀ r q hc', Dk hc r q 0 hc' → Q (.ref r) hc'
theorem len__law_deck {ds : List D} {hc : CH} {Q E} (h : sp__law_deck ds hc Q E) : ds.length = 1 := by
  obtain ⟨ns, rfl, _⟩ := h
  rfl
theorem cut63 {α : Type} (xs : List α) (h : xs.length ≤ 63) : cutX xs none (some 63) = xs := by
  unfold cutX
  rw [show HT.sIx xs.length 0 none = 0 from rfl, show HT.sIx xs.length xs.length (some 63) = min 63 xs.length from HT.sIx_nat _ _ 63]
  rw [Nat.sub_zero, List.drop_zero, Nat.min_eq_right h, List.take_length]
theorem pure__law_deck {ds : List D} {hc : CH} {Q : D → CH → Prop} {E} (h : sp__law_deck ds hc Q E) : c__law_deck { nx := fun _ hc' => Q .non hc', rt := Q } (startC N__law_deck ds) hc := by
  obtain ⟨ns, rfl, hl, q⟩ := h
  have hcut : cutX (ns.map D.int) none (some 63) = ns.map D.int := cut63 _ (by rw [List.length_map]; exact hl)
  show (cutX (ns.map D.int) none (some 63)).length ≤ sizeLine ∧ _
  rw [hcut]
  refine ⟨by rw [List.length_map]; exact Nat.le_trans hl (by decide), ?_⟩
  refine lc_map (fun d => match d with | .int i => .int (if i < 0 then -i else i) | d => d) (fun d hd Nx k => ?_) ?_
  · obtain ⟨n, _, rfl⟩ := List.mem_map.mp hd
    exact k
  · rw [List.map_map]
    intro p hp
    refine ⟨by show 2 ≤ sizeLine; decide, fun r hr => ?_⟩
    have hrp : r ≠ p := fun e => by
      rw [e, updc_same] at hr; cases hr
    refine q r p _ ⟨hrp, ⟨ns.map fun i => if i < 0 then -i else i, 0, updc_same, ?_, ?_, by rw [List.length_map]; exact hl, Int.le_refl _, Int.le_refl _⟩, fun a h1 h2 => ?_⟩
    · rw [updc_ne (Ne.symm hrp), updc_same, List.map_map]
      rfl
    · intro c hc'
      obtain ⟨n, _, rfl⟩ := List.mem_map.mp hc'
      split <;> omega
    · rw [updc_ne h1, updc_ne h2]


theorem at__law_deck (T : Txt K mg)  : FnAt P w K mg base 1 "_law_deck" ["_law_script"] sp__law_deck :=
  fn_at (c := c__law_deck) T.d__law_deck sc__law_deck (fun f cdv A outer s H E hr => by
    have nd := sc__law_deck.nd
    exact (css_one (cs_ret (CE.bo (ce_lstM (ca_cons (ce_lcM rfl nd (own := [("_law_cell", 1)]) (ci_e (ce_sl (CE.bo (ce_v 0)) co_none (co_some ce_i))) (blkOk_by (N := ["_law_script", "_law_cell"]) (sc := defScope s__law_deck) (own := [("_law_cell", 1)]) (by decide +kernel)) (fun _ _ _ _ _ => (cgk_n 1 nd)) (fun _ _ _ _ _ => cts_nil) (fun _ _ _ _ _ => (ce_bf bf_abs T.n_abs (cba_cons (CE.bo (ce_v 1)) cba_nil)))) (ca_cons ce_i ca_nil)))))))
    (fun ds hc Q E h => len__law_deck h) (fun ds hc Q E h => pure__law_deck h) (fun _ _ _ _ _ _ us hl => match us, hl with | [_], _ => rfl)

abbrev N__law_draw : List Str := ["_law_deck_here", "_law_many", "_law_place", "_law_cell", "_law_mixed"]
def c__law_draw : CSx :=
  (cSeq (cAsg (cOp addD (cOp ixD (cV 0) (cC (.int 1))) (cC (.int 1))) (gSub' (cV 0) (cC (.int 1))))
    (cSeq (cAsg (cOp modD (cFn intFD (cCons (cOp ixD (cV 0) (cC (.int 1))) cNil)) (cFn maxD2 (cCons (cC (.int 1)) (cCons (cFn lenD (cCons (cOp ixD (cV 0) (cC (.int 0))) cNil)) cNil)))) (gN 2))
    (cSeq (cAsg (cOp ixD (cOp addD (cOp ixD (cV 0) (cC (.int 0))) (cLst (cCons (cC (.int 0)) cNil))) (cV 2)) (gN 3))
    (cSeq (cIfS (cT (cOp geD (cV 3) (cOp powD (cC (.int 10)) (cC (.int 18)))))
    (cSeq (cAsg (cOp fdivD (cV 3) (cV 1)) (gSub' (cOp ixD (cV 0) (cC (.int 0))) (cV 2)))
    (cRet (cOp modD (cFn intFD (cCons (cV 3) cNil)) (cV 1))))
    cNext)
    (cSeq (cAsg (cOp powD (cOp addD (cOp addD (cOp modD (cFn intFD (cCons (cV 3) cNil)) (cC (.int 2147483587))) (cOp mulD (cC (.int 7919)) (cOp ixD (cV 0) (cC (.int 1))))) (cC (.int 1))) (cC (.int 5))) (gN 4))
    (cRet (cOp modD (cFn intFD (cCons (cOp modD (cFn intFD (cCons (cV 4) cNil)) (cC (.int 2147483647))) cNil)) (cV 1))))))))

def sp__law_draw : Spc := fun ds hc Q _ => ∃ b r q N many, ds = [.ref r, .int many] ∧ Dk b r q N hc ∧ N < 1000000 ∧ 0 < many ∧ many ≤ 10 ^ 18 ∧ ∀ k hc', 0 ≤ k → k < many → Dk b r q (N + 1) hc' → Q (.int k) hc'
theorem len__law_draw {ds : List D} {hc : CH} {Q E} (h : sp__law_draw ds hc Q E) : ds.length = 2 := by
  obtain ⟨b, r, q, N, many, rfl, _⟩ := h
  rfl
theorem many_ok {many : Int} (h0 : 0 < many) (h1 : many ≤ 10 ^ 18) (c : Int) : DivOk c many := divOk 64 h0 (by
  have e : (10 : Int) ^ 18 = 1000000000000000000 := by decide
  have e2 : (2 : Nat) ^ 64 = 18446744073709551616 := by decide
  omega) (by decide)
theorem pure__law_draw {ds : List D} {hc : CH} {Q : D → CH → Prop} {E} (h : sp__law_draw ds hc Q E) : c__law_draw { nx := fun _ hc' => Q .non hc', rt := Q } (startC N__law_draw ds) hc := by
  obtain ⟨b, r, q, N, many, rfl, ⟨hrq, ⟨cells, n, hr, hq, hnn, hlen, n0, n1⟩, fr⟩, hN, m0, m1, k⟩ := h
  unfold c__law_draw N__law_draw
  refine seq_step fun M hM => ?_
  walk_at "n"
  refine oth_some hr ?_
  walk_at "n"
  refine oth_some hr (oth_some (x := 1) rfl (hM _ _ ?_))
  have hr1 : updc hc r ([D.ref q, D.int n].set 1 (D.int (n + 1))) r = some [.ref q, .int (n + 1)] := updc_same
  have hq1 : updc hc r ([D.ref q, D.int n].set 1 (D.int (n + 1))) q = some (cells.map D.int) := by rw [updc_ne (Ne.symm hrq)]; exact hq
  have fr1 : ∀ a, a ≠ r → a ≠ q → updc hc r ([D.ref q, D.int n].set 1 (D.int (n + 1))) a = b a := fun a h1 h2 => by rw [updc_ne h1]; exact fr a h1 h2
  have dk1 : Dk b r q (N + 1) (updc hc r ([D.ref q, D.int n].set 1 (D.int (n + 1)))) := ⟨hrq, ⟨cells, n + 1, hr1, hq1, hnn, hlen, by omega, by omega⟩, fr1⟩
  revert hr1 hq1 fr1 dk1
  generalize updc hc r ([D.ref q, D.int n].set 1 (D.int (n + 1))) = hc1
  intro hr1 hq1 fr1 dk1
  refine seq_step fun M hM => ?_
  walk_at "n"
  refine oth_some hr1 ?_
  walk_at "n"
  refine oth_some hr1 ?_
  walk_at "n"
  refine oth_some hq1 ?_
  walk_at "n"
  rw [List.length_map]
  have ml : (0 : Int) < (if (cells.length : Int) > 1 then (cells.length : Int) else 1) := by split <;> omega
  refine ⟨ml, ?_⟩
  have p0 := Int.emod_nonneg (n + 1) (show (if (cells.length : Int) > 1 then (cells.length : Int) else 1) ≠ 0 by omega)
  have p1 : (n + 1) % (if (cells.length : Int) > 1 then (cells.length : Int) else 1) < (cells.length : Int) + 1 := Int.lt_of_lt_of_le (Int.emod_lt_of_pos _ ml) (by split <;> omega)
  revert p0 p1
  generalize (n + 1) % (if (cells.length : Int) > 1 then (cells.length : Int) else 1) = pl
  intro p0 p1
  refine hM _ _ ?_
  refine seq_step fun M hM => ?_
  walk_at "n"
  refine oth_some hr1 ?_
  walk_at "n"
  refine ⟨by decide, ?_⟩
  refine oth_some hq1 ⟨by rw [List.length_map, sizeLine_eq]; omega, ?_⟩
  refine atD_all p0 (by rw [List.length_append, List.length_map, List.length_singleton]; omega) fun j d ej ed => ?_
  refine hM _ _ ?_
  have hd : ∃ c, d = .int c ∧ 0 ≤ c ∧ (10 ^ 18 ≤ c → j < cells.length) := by
    by_cases hj : j < cells.length
    · rw [List.getElem?_append_left (by rw [List.length_map]; exact hj), List.getElem?_map] at ed
      cases e : cells[j]? with
      | none => rw [e] at ed; cases ed
      | some c =>
        rw [e] at ed; cases ed
        exact ⟨c, rfl, hnn c (List.mem_of_getElem? e), fun _ => hj⟩
    · rw [List.getElem?_append_right (by rw [List.length_map]; omega), List.length_map] at ed
      have : j - cells.length = 0 := by omega
      rw [this] at ed
      cases ed
      exact ⟨0, rfl, Int.le_refl _, fun z => absurd z (by decide)⟩
  obtain ⟨c, rfl, c0, hc10⟩ := hd
  have cp : CPow 10 18 := ⟨by decide, by decide, by decide⟩
  refine seq_step fun M hM => ?_
  walk_at "n"
  refine ⟨cp, ?_⟩
  refine ite2 (fun big => ?_) (fun small => ?_)
  · have hj := hc10 (of_decide_eq_true big)
    refine seq_step fun M2 hM2 => ?_
    walk_at "n"
    refine ⟨many_ok m0 m1 c, ?_⟩
    refine oth_some hr1 ?_
    walk_at "n"
    refine oth_some hq1 (oth_some (set_nat p0 (by rw [List.length_map]; omega)) ?_)
    refine hM2 _ _ ?_
    walk_at "n"
    refine ⟨m0, k _ _ (Int.emod_nonneg _ (by omega)) (Int.emod_lt_of_pos _ m0) ?_⟩
    refine ⟨hrq, ⟨cells.set pl.toNat (c / many), n + 1, ?_, ?_, ?_, by rw [List.length_set]; exact hlen, by omega, by omega⟩, fun a h1 h2 => ?_⟩
    · rw [updc_ne hrq]; exact hr1
    · rw [updc_same, List.map_set]
    · intro x hx
      rcases List.mem_or_eq_of_mem_set hx with hx | rfl
      · exact hnn x hx
      · exact Int.ediv_nonneg c0 (by omega)
    · rw [updc_ne h2]; exact fr1 a h1 h2
  · refine hM _ _ ?_
    refine seq_step fun M2 hM2 => ?_
    walk_at "n"
    refine ⟨by decide, ?_⟩
    refine oth_some hr1 ?_
    walk_at "n"
    refine ⟨mulOk_l (by decide), ?_⟩
    have q0 : 0 ≤ c % 2147483587 := Int.emod_nonneg _ (by decide)
    have q1 : c % 2147483587 < 2147483587 := Int.emod_lt_of_pos _ (by decide)
    refine ⟨⟨by decide, by decide, ?_⟩, hM2 _ _ ?_⟩
    · have e2 : (2 : Nat) ^ 64 = 18446744073709551616 := by decide
      rw [e2]
      omega
    · walk_at "n"
      exact ⟨by decide, m0, k _ _ (Int.emod_nonneg _ (by omega)) (Int.emod_lt_of_pos _ m0) dk1⟩


theorem at__law_draw (T : Txt K mg)  : FnAt P w K mg base 1 "_law_draw" ["_law_deck_here", "_law_many"] sp__law_draw :=
  fn_at (c := c__law_draw) T.d__law_draw sc__law_draw (fun f cdv A outer s H E hr => by
    have nd := sc__law_draw.nd
    exact (css_cons (cs_asg (ce_op op_addD (CE.bo (ce_ix (CE.bo (ce_v 0)) ce_i)) (CE.bo ce_i)) (cg_s (ce_v 0) ce_i))
    (css_cons (cs_set nd (ce_op op_modD (CE.bo (ce_bt bt_int T.n_int (cba_cons (CE.bo (ce_ix (CE.bo (ce_v 0)) ce_i)) cba_nil))) (CE.bo (ce_bf (bf_max2 rfl) T.n_max (cba_cons (CE.bo ce_i) (cba_cons (CE.bo (ce_bf bf_len T.n_len (cba_cons (CE.bo (ce_ix (CE.bo (ce_v 0)) ce_i)) cba_nil))) cba_nil))))))
    (css_cons (cs_set nd (ce_ix (CE.bo (ce_op op_addD (CE.bo (ce_ix (CE.bo (ce_v 0)) ce_i)) (CE.bo (ce_lst (ca_cons ce_i ca_nil))))) (ce_v 2)))
    (css_cons (cs_if (ct_cmp op_geD (CE.bo (ce_v 3)) (CE.bo (ce_op op_powD (CE.bo ce_i) (CE.bo ce_i))))
    (css_cons (cs_asg (ce_op op_fdivD (CE.bo (ce_v 3)) (CE.bo (ce_v 1))) (cg_s (ce_ix (CE.bo (ce_v 0)) ce_i) (ce_v 2)))
    (css_one (cs_ret (CE.bo (ce_op op_modD (CE.bo (ce_bt bt_int T.n_int (cba_cons (CE.bo (ce_v 3)) cba_nil))) (CE.bo (ce_v 1)))))))
    css_nil)
    (css_cons (cs_set nd (ce_op op_powD (CE.bo (ce_op op_addD (CE.bo (ce_op op_addD (CE.bo (ce_op op_modD (CE.bo (ce_bt bt_int T.n_int (cba_cons (CE.bo (ce_v 3)) cba_nil))) (CE.bo ce_i))) (CE.bo (ce_op op_mulD (CE.bo ce_i) (CE.bo (ce_ix (CE.bo (ce_v 0)) ce_i)))))) (CE.bo ce_i))) (CE.bo ce_i)))
    (css_one (cs_ret (CE.bo (ce_op op_modD (CE.bo (ce_bt bt_int T.n_int (cba_cons (CE.bo (ce_op op_modD (CE.bo (ce_bt bt_int T.n_int (cba_cons (CE.bo (ce_v 4)) cba_nil))) (CE.bo ce_i))) cba_nil))) (CE.bo (ce_v 1))))))))))))
    (fun ds hc Q E h => len__law_draw h) (fun ds hc Q E h => pure__law_draw h) (fun _ _ _ _ _ _ us hl => match us, hl with | [_, _], _ => rfl)

abbrev N__law_digits : List Str := ["_law_deck_here", "_law_signs", "_law_most", "_law_many", "_law_k"]
def c__law_digits : CSx :=
  (cSeq (cAsg (cOp ixD (cLst (cCons (cC (.int 1)) (cCons (cC (.int 2)) (cCons (cOp addD (cC (.int 1)) (cCall sp__law_draw (cCons (cV 0) (cCons (cC (.int 8)) cNil)))) (cCons (cOp addD (cC (.int 1)) (cCall sp__law_draw (cCons (cV 0) (cCons (cC (.int 40)) cNil)))) (cCons (cV 2) cNil)))))) (cOp ixD (cLst (cCons (cC (.int 0)) (cCons (cC (.int 1)) (cCons (cC (.int 2)) (cCons (cC (.int 2)) (cCons (cC (.int 2)) (cCons (cC (.int 3)) (cCons (cC (.int 4)) cNil)))))))) (cCall sp__law_draw (cCons (cV 0) (cCons (cC (.int 7)) cNil))))) (gN 3))
    (cRet (cJn (cC (.str "")) (cLc (cR1 (cCons (cV 3) cNil)) (gN 4) cYes (cOp ixD (cV 1) (cCall sp__law_draw (cCons (cV 0) (cCons (cFn lenD (cCons (cV 1) cNil)) cNil)))) [4]))))

/-! ### texts as lists of signs -/
def txt (l : List Nat) : Str := ⟨l.toArray⟩
theorem txt_list {l : List Nat} : (txt l).cps.toList = l := rfl
theorem txt_len {l : List Nat} : (txt l).length = l.length := by
  show l.toArray.size = _
  rw [List.size_toArray]
theorem txt_app {a b : List Nat} : txt a ++ txt b = txt (a ++ b) := by
  show (⟨a.toArray ++ b.toArray⟩ : Str) = ⟨(a ++ b).toArray⟩
  rw [List.append_toArray]
theorem txt_inj {a b : List Nat} : txt a = txt b ↔ a = b := by
  refine ⟨fun h => ?_, fun h => by rw [h]⟩
  have : (txt a).cps.toList = (txt b).cps.toList := by rw [h]
  exact this
theorem txt_chr {c : Nat} : (⟨#[c]⟩ : Str) = txt [c] := rfl
theorem txt_cut {l : List Nat} {lo hi : Option Int} : cutS (txt l) lo hi = txt (cutX l lo hi) := by
  unfold cutS cutX
  rw [txt_len, txt_list]
  rfl
theorem txt_at {l : List Nat} {i : Int} {k c : Nat} {F : Nat → Prop} (hi : i = (k : Int)) (h : l[k]? = some c) (q : F c) : oth (atI (txt l).cps.toList i) F := by
  have lt : k < l.length := (List.getElem?_eq_some_iff.mp h).1
  refine oth_some (x := c) ?_ q
  rw [txt_list]
  subst hi
  unfold atI L2.ixN
  rw [if_pos (by omega), if_pos (by omega)]
  exact h
theorem cut_at {α : Type} (pre rest : List α) {i j : Int} (k : Nat) (hi : i = (pre.length : Int)) (hj : j = (pre.length : Int) + k) : cutX (pre ++ rest) (some i) (some j) = rest.take k := by
  subst hi hj
  unfold cutX
  rw [show (pre.length : Int) + k = ((pre.length + k : Nat) : Int) by omega, HT.sIx_nat, HT.sIx_nat, List.length_append, show min pre.length (pre.length + rest.length) = pre.length by omega, List.drop_left]
  by_cases h : k ≤ rest.length
  · rw [show min (pre.length + k) (pre.length + rest.length) - pre.length = k by omega]
  · rw [show min (pre.length + k) (pre.length + rest.length) - pre.length = rest.length by omega, List.take_of_length_le (Nat.le_refl _), List.take_of_length_le (by omega)]
theorem cut_to {α : Type} (l : List α) (k : Nat) : cutX l none (some (k : Int)) = l.take k := by
  unfold cutX
  rw [HT.sIx_nat, HT.sIx_none, List.drop_zero, Nat.sub_zero]
  by_cases h : k ≤ l.length
  · rw [show min k l.length = k by omega]
  · rw [show min k l.length = l.length by omega, List.take_of_length_le (Nat.le_refl _), List.take_of_length_le (by omega)]
theorem cut_from {α : Type} (l : List α) (k : Nat) : cutX l (some (k : Int)) none = l.drop k := by
  unfold cutX
  rw [HT.sIx_nat, HT.sIx_none]
  by_cases h : k ≤ l.length
  · rw [show min k l.length = k by omega, List.take_of_length_le (by rw [List.length_drop]; omega)]
  · rw [show min k l.length = l.length by omega, List.drop_eq_nil_of_le (Nat.le_refl _), List.drop_eq_nil_of_le (by omega), List.take_nil]
theorem at_app {pre : List Nat} {c : Nat} {rest : List Nat} : (pre ++ c :: rest)[pre.length]? = some c := by
  rw [List.getElem?_append_right (Nat.le_refl _), Nat.sub_self]
  rfl
/-! ### digits with a dot -/
structure ShT (sg : List Nat) (most : Nat) (sh ds : List Nat) (b : Nat) : Prop where
  eq : (sh = ds ∧ b = 0) ∨ ∃ u v, ds = u ++ v ∧ sh = u ++ 46 :: v ∧ b = v.length
  mem : ∀ c ∈ ds, c ∈ sg
  ne : ds ≠ []
  len : ds.length ≤ most
def noDot (l : List Nat) : List Nat := l.filter (· != 46)
theorem noDot_app {a b : List Nat} : noDot (a ++ b) = noDot a ++ noDot b := List.filter_append ..
theorem noDot_self {l : List Nat} (h : 46 ∉ l) : noDot l = l := List.filter_eq_self.mpr fun c hc => by
  rw [bne_iff_ne]
  intro e
  exact h (e ▸ hc)
theorem noDot_dot {l : List Nat} : noDot (46 :: l) = noDot l := rfl
theorem noDot_one {c : Nat} (h : c ≠ 46) : noDot [c] = [c] := noDot_self (by rw [List.mem_singleton]; omega)
theorem ShT.no {sg : List Nat} {most : Nat} {sh ds : List Nat} {b : Nat} (h : ShT sg most sh ds b) (hs : 46 ∉ sg) : noDot sh = ds ∧ sh.count 46 ≤ 1 ∧ (∀ c ∈ sh, c ≠ 46 → c ∈ sg) := by
  have nd : 46 ∉ ds := fun z => hs (h.mem _ z)
  rcases h.eq with ⟨rfl, _⟩ | ⟨u, v, e, rfl, _⟩
  · exact ⟨noDot_self nd, by rw [List.count_eq_zero_of_not_mem nd]; decide, fun c hc _ => h.mem c hc⟩
  · have nu : 46 ∉ u := fun z => nd (e ▸ List.mem_append_left _ z)
    have nv : 46 ∉ v := fun z => nd (e ▸ List.mem_append_right _ z)
    refine ⟨by rw [noDot_app, noDot_dot, noDot_self nu, noDot_self nv, e], ?_, fun c hc n => ?_⟩
    · rw [List.count_append, List.count_cons_self, List.count_eq_zero_of_not_mem nu, List.count_eq_zero_of_not_mem nv]
      decide
    · refine h.mem c ?_
      rw [e]
      rcases List.mem_append.mp hc with hc | hc
      · exact List.mem_append_left _ hc
      · rcases List.mem_cons.mp hc with hc | hc
        · exact absurd hc n
        · exact List.mem_append_right _ hc
/-- where the dot stood -/
def frontD (l : List Nat) : D := if 46 ∈ l then .int ((l.takeWhile (· != 46)).length : Int) else .non
theorem frontD_no {l : List Nat} (h : 46 ∉ l) : frontD l = .non := if_neg h
theorem frontD_dot {l : List Nat} (h : 46 ∉ l) : frontD (l ++ [46]) = .int ((noDot l).length : Int) := by
  unfold frontD
  rw [if_pos (List.mem_append_right _ (List.mem_singleton_self _)), noDot_self h]
  congr 2
  rw [List.takeWhile_append_of_pos fun c hc => by rw [bne_iff_ne]; intro e; exact h (e ▸ hc)]
  show (l ++ List.takeWhile (· != 46) [46]).length = l.length
  rw [show List.takeWhile (· != 46) [46] = [] from rfl, List.append_nil]
theorem while_app : ∀ {l r : List Nat}, 46 ∈ l → (l ++ r).takeWhile (· != 46) = l.takeWhile (· != 46)
  | [], _, h => by cases h
  | c :: l, r, h => by
    by_cases z : c = 46
    · subst z; rfl
    · have m : 46 ∈ l := by
        rcases List.mem_cons.mp h with h | h
        · exact absurd h.symm z
        · exact h
      have b : (c != 46) = true := by rw [bne_iff_ne]; exact z
      rw [List.cons_append, List.takeWhile_cons, List.takeWhile_cons, if_pos b, if_pos b, while_app m]
theorem frontD_step {l : List Nat} {c : Nat} (h : c ≠ 46) : frontD (l ++ [c]) = frontD l := by
  unfold frontD
  by_cases z : 46 ∈ l
  · rw [if_pos z, if_pos (List.mem_append_left _ z)]
    rw [while_app z]
  · rw [if_neg z, if_neg]
    intro m
    rcases List.mem_append.mp m with m | m
    · exact z m
    · exact h (List.mem_singleton.mp m).symm
theorem ShT.behind {sg : List Nat} {most : Nat} {sh ds : List Nat} {b : Nat} (h : ShT sg most sh ds b) (hs : 46 ∉ sg) : (frontD sh = .non ∧ b = 0) ∨ ∃ f : Int, frontD sh = .int f ∧ (ds.length : Int) - f = b := by
  have nd : 46 ∉ ds := fun z => hs (h.mem _ z)
  rcases h.eq with ⟨rfl, e⟩ | ⟨u, v, e, rfl, e2⟩
  · exact .inl ⟨frontD_no nd, e⟩
  · have nu : 46 ∉ u := fun z => nd (e ▸ List.mem_append_left _ z)
    refine .inr ⟨u.length, ?_, by rw [e, List.length_append]; omega⟩
    unfold frontD
    rw [if_pos (List.mem_append_right _ (List.mem_cons_self ..)), List.takeWhile_append_of_pos fun c hc => by rw [bne_iff_ne]; intro z; exact nu (z ▸ hc)]
    show D.int ((u ++ []).length : Int) = _
    rw [List.append_nil]
theorem ix_txt {l : List Nat} {i : Int} {k c : Nat} {hc : CH} {P : D → Prop} (h : l[k]? = some c) (hi : i = (k : Int)) (hl : l.length ≤ 100000) (q : P (.str (txt [c]))) : ixD (.str (txt l)) (.int i) hc P :=
  ⟨by rw [txt_len, sizeLine_eq]; omega, txt_at hi h q⟩
theorem chr_eq {s : String} {c d : Nat} (h : Str.ofString s = txt [d]) : txt [c] = Str.ofString s ↔ c = d := by
  rw [h, txt_inj, List.cons.injEq]
  exact ⟨fun z => z.1, fun z => ⟨z, rfl⟩⟩
theorem txt_dot : Str.ofString "." = txt [46] := by decide +kernel
/-! ### an exponent's text -/
structure PwT (most : Nat) (pw : List Nat) (k : Int) : Prop where
  out : ∃ sg d, pw = sg ++ d ∧ (sg = [] ∨ sg = [43] ∨ sg = [45]) ∧ PySem.NumText.AllDigits d ∧ d ≠ [] ∧ PySem.NumText.digitsVal d ≤ most ∧ k = if sg = [45] then 0 - (PySem.NumText.digitsVal d : Int) else (PySem.NumText.digitsVal d : Int)
theorem val_mono : ∀ (b a : List Nat), PySem.NumText.digitsVal a ≤ PySem.NumText.digitsVal (a ++ b)
  | [], a => by rw [List.append_nil]; exact Nat.le_refl _
  | c :: b, a => by
    have h := val_mono b (a ++ [c])
    rw [PySem.NumText.digitsVal_snoc, List.append_assoc] at h
    have e : a ++ ([c] ++ b) = a ++ c :: b := rfl
    rw [e] at h
    omega
theorem sl_txt {pre rest : List Nat} {i j : Int} {k : Nat} {hc : CH} {P : D → Prop} (hi : i = (pre.length : Int)) (hj : j = (pre.length : Int) + k) (hl : (pre ++ rest).length ≤ 100000) (q : P (.str (txt (rest.take k)))) : slD (.str (txt (pre ++ rest))) (some i) (some j) hc P := by
  refine ⟨by rw [txt_len, sizeLine_eq]; omega, ?_⟩
  rw [txt_cut, cut_at pre rest k hi hj]
  exact q
theorem sl_head {l : List Nat} {k : Nat} {hc : CH} {P : D → Prop} (hl : l.length ≤ 100000) (q : P (.str (txt (l.take k)))) : slD (.str (txt l)) none (some (k : Int)) hc P := by
  refine ⟨by rw [txt_len, sizeLine_eq]; omega, ?_⟩
  rw [txt_cut, cut_to]
  exact q
theorem txt_minus : Str.ofString "-" = txt [45] := by decide +kernel
theorem txt_plus : Str.ofString "+" = txt [43] := by decide +kernel
theorem okD_txt {l : List Nat} {n : Nat} (h : ∀ c ∈ l, c < 128) : okD n (.str (txt l)) = true := by
  rw [okD_str]
  unfold PyData.canLay0 PyData.strOk
  rw [← Array.all_toList, List.all_eq_true]
  intro c hc
  have := h c hc
  exact decide_eq_true (by omega)
theorem in_pm {l : List Nat} {P : D → Prop} (hl : ∀ c ∈ l, c < 128) (h : P (.bl (decide (l = [45] ∨ l = [43])))) : inG false (.str (txt l)) [.str "-", .str "+"] P := by
  refine inG_ok (n := 0) (m := 0) (okD_txt hl) (by decide +kernel) (fun m => ?_) fun m => ?_
  · rw [decide_eq_true (by
      simp only [List.mem_cons, List.not_mem_nil, or_false, D.str.injEq] at m
      rcases m with m | m
      · exact .inl (txt_inj.mp (m.trans txt_minus))
      · exact .inr (txt_inj.mp (m.trans txt_plus)))] at h
    exact h
  · rw [decide_eq_false (by
      intro z
      apply m
      simp only [List.mem_cons, List.not_mem_nil, or_false, D.str.injEq]
      rcases z with rfl | rfl
      · exact .inl txt_minus.symm
      · exact .inr txt_plus.symm)] at h
    exact h
theorem txt_digits : Str.ofString "0123456789" = txt [48, 49, 50, 51, 52, 53, 54, 55, 56, 57] := by decide +kernel
theorem digit_in {c : Nat} (h : 48 ≤ c ∧ c ≤ 57) : c ∈ (Str.ofString "0123456789").cps.toList := by
  rw [txt_digits, txt_list]
  have n : c = 48 ∨ c = 49 ∨ c = 50 ∨ c = 51 ∨ c = 52 ∨ c = 53 ∨ c = 54 ∨ c = 55 ∨ c = 56 ∨ c = 57 := by omega
  rcases n with rfl | rfl | rfl | rfl | rfl | rfl | rfl | rfl | rfl | rfl <;> decide
/-! ### one sign cut out, known words, hexadecimal digits -/
theorem sl_one {l : List Nat} {i j : Int} {k c : Nat} {hc : CH} {P : D → Prop} (h : l[k]? = some c) (hi : i = (k : Int)) (hj : j = (k : Int) + 1) (hl : l.length ≤ 100000) (q : P (.str (txt [c]))) : slD (.str (txt l)) (some i) (some j) hc P := by
  obtain ⟨lt, e⟩ := List.getElem?_eq_some_iff.mp h
  have el : l = l.take k ++ c :: l.drop (k + 1) := by
    rw [← e, ← List.drop_eq_getElem_cons lt, List.take_append_drop]
  have ek : (l.take k).length = k := by rw [List.length_take]; omega
  rw [el] at hl ⊢
  exact sl_txt (k := 1) (by rw [ek]; exact hi) (by rw [ek]; exact hj) hl q
theorem txt_hexs : Str.ofString "0123456789abcdef" = txt [48, 49, 50, 51, 52, 53, 54, 55, 56, 57, 97, 98, 99, 100, 101, 102] := by decide +kernel
theorem txt_inf : Str.ofString "inf" = txt [105, 110, 102] := by decide +kernel
abbrev decL : List Nat := [48, 49, 50, 51, 52, 53, 54, 55, 56, 57]
abbrev hexL : List Nat := [48, 49, 50, 51, 52, 53, 54, 55, 56, 57, 97, 98, 99, 100, 101, 102]
theorem decL_rng {c : Nat} (h : c ∈ decL) : 48 ≤ c ∧ c ≤ 57 := by
  simp only [List.mem_cons, List.not_mem_nil, or_false] at h
  omega
theorem hexL_rng {c : Nat} (h : c ∈ hexL) : (48 ≤ c ∧ c ≤ 57) ∨ (97 ≤ c ∧ c ≤ 102) := by
  simp only [List.mem_cons, List.not_mem_nil, or_false] at h
  omega
theorem decL_all {l : List Nat} (h : ∀ c ∈ l, c ∈ decL) : PySem.NumText.AllDigits l := fun c m => decL_rng (h c m)
theorem hexL_all {l : List Nat} (h : ∀ c ∈ l, c ∈ hexL) : ∀ c ∈ l, Hx.IsHex c := fun c m => by
  have := hexL_rng (h c m)
  unfold Hx.IsHex
  omega
theorem txt_ne {l : List Nat} (h : l ≠ []) : (txt l).cps.toList ≠ [] := h
theorem dig_foldl : ∀ (l : List Nat) (a : Nat), PySem.NumText.AllDigits l → l.foldl (fun acc c => acc * 10 + (c - 48)) a < (a + 1) * 10 ^ l.length
  | [], a, _ => by show a < (a + 1) * 1; omega
  | c :: l, a, h => by
    have hc := h c (List.mem_cons_self ..)
    have := dig_foldl l (a * 10 + (c - 48)) fun x m => h x (List.mem_cons_of_mem _ m)
    refine Nat.lt_of_lt_of_le this ?_
    rw [List.length_cons, Nat.pow_succ, ← Nat.mul_assoc, Nat.mul_right_comm]
    exact Nat.mul_le_mul_right _ (by omega)
theorem val_lt {l : List Nat} (h : PySem.NumText.AllDigits l) : PySem.NumText.digitsVal l < 10 ^ l.length := by
  have := dig_foldl l 0 h
  rw [Nat.zero_add, Nat.one_mul] at this
  exact this
theorem hex_foldl : ∀ (l : List Nat) (a : Nat), (∀ c ∈ l, Hx.IsHex c) → l.foldl (fun acc c => acc * 16 + Hx.hv c) a < (a + 1) * 16 ^ l.length
  | [], a, _ => by show a < (a + 1) * 1; omega
  | c :: l, a, h => by
    have hc := Hx.hv_lt (h c (List.mem_cons_self ..))
    have := hex_foldl l (a * 16 + Hx.hv c) fun x m => h x (List.mem_cons_of_mem _ m)
    refine Nat.lt_of_lt_of_le this ?_
    rw [List.length_cons, Nat.pow_succ, ← Nat.mul_assoc, Nat.mul_right_comm]
    exact Nat.mul_le_mul_right _ (by omega)
theorem hex_lt {l : List Nat} (h : ∀ c ∈ l, Hx.IsHex c) : Hx.hexNum l < 16 ^ l.length := by
  have := hex_foldl l 0 h
  rw [Nat.zero_add, Nat.one_mul] at this
  exact this
/-- the end of a decimal's text: nothing, or e and a power -/
def TailT (most : Nat) (tail : List Nat) (k : Int) : Prop := (tail = [] ∧ k = 0) ∨ ∃ pw, tail = 101 :: pw ∧ PwT most pw k
/-- a number text without its sign, and what it tells -/
def NumT (rest : List Nat) (out : List D) : Prop := (rest = [105, 110, 102] ∧ out = [.str "inf"]) ∨
  (∃ sh pw dg b k, rest = 48 :: 120 :: (sh ++ 112 :: pw) ∧ ShT hexL 300 sh dg b ∧ PwT 1400 pw k ∧ out = [.int 2, .int ((Hx.hexNum dg : Nat) : Int), .int (k - 4 * (b : Int))]) ∨
  ∃ sh tail dg b k, rest = sh ++ tail ∧ ShT decL 1300 sh dg b ∧ TailT 1200 tail k ∧ out = [.int 10, .int ((PySem.NumText.digitsVal dg : Nat) : Int), .int (k - (b : Int))]
theorem ShT.front {sg : List Nat} {most : Nat} {sh dg : List Nat} {b : Nat} (h : ShT sg most sh dg b) : ∃ c t, sh = c :: t ∧ (c ∈ sg ∨ c = 46) ∧ ∀ x ∈ t, x ∈ sg ∨ x = 46 := by
  have all : ∀ c ∈ sh, c ∈ sg ∨ c = 46 := fun c m => by
    rcases h.eq with ⟨rfl, _⟩ | ⟨u, v, e, rfl, _⟩
    · exact .inl (h.mem c m)
    · rcases List.mem_append.mp m with m | m
      · exact .inl (h.mem c (e ▸ List.mem_append_left _ m))
      · rcases List.mem_cons.mp m with m | m
        · exact .inr m
        · exact .inl (h.mem c (e ▸ List.mem_append_right _ m))
  cases sh with
  | nil =>
    rcases h.eq with ⟨e, _⟩ | ⟨u, v, _, e, _⟩
    · exact absurd e.symm h.ne
    · cases u <;> cases e
  | cons c t => exact ⟨c, t, rfl, all c (List.mem_cons_self ..), fun x m => all x (List.mem_cons_of_mem _ m)⟩
/-! ### texts read, joined, made of numbers -/
def rdV (b : Nat) (l : List Nat) : Nat := l.foldl (fun a c => a * b + Hx.hv c) 0
theorem rdV_hex {l : List Nat} : rdV 16 l = Hx.hexNum l := rfl
theorem rdV_foldl : ∀ (l : List Nat) (a : Nat), PySem.NumText.AllDigits l → l.foldl (fun a c => a * 10 + Hx.hv c) a = l.foldl (fun a c => a * 10 + (c - 48)) a
  | [], _, _ => rfl
  | c :: l, a, h => by
    have hc := h c (List.mem_cons_self ..)
    rw [List.foldl_cons, List.foldl_cons, rdV_foldl l _ fun x m => h x (List.mem_cons_of_mem _ m)]
    unfold Hx.hv
    rw [if_pos hc.2]
theorem rdV_dec {l : List Nat} (h : PySem.NumText.AllDigits l) : rdV 10 l = PySem.NumText.digitsVal l := rdV_foldl l 0 h
theorem rdV_snoc {b : Nat} {l : List Nat} {c : Nat} : rdV b (l ++ [c]) = rdV b l * b + Hx.hv c := by
  unfold rdV
  rw [List.foldl_append]
  rfl
theorem hex_at {c : Nat} (h : c ∈ hexL) : Builtin.Str.occurrences (Str.ofString "0123456789abcdef") ⟨#[c]⟩ 0 (Str.ofString "0123456789abcdef").length 1 = [Hx.hv c] := by
  simp only [List.mem_cons, List.not_mem_nil, or_false] at h
  rcases h with rfl | rfl | rfl | rfl | rfl | rfl | rfl | rfl | rfl | rfl | rfl | rfl | rfl | rfl | rfl | rfl <;> decide +kernel
theorem joinL_one : ∀ l : List Nat, TL.joinL [] (l.map fun c => [c]) = l
  | [] => rfl
  | [c] => rfl
  | c :: d :: l => by
    show [c] ++ ([] ++ TL.joinL [] ((d :: l).map fun c => [c])) = _
    rw [joinL_one (d :: l)]
    rfl
theorem join_chars {l : List Nat} : Txt.join (Str.ofString "") (l.map fun c => txt [c]) = txt l := by
  have e : TL.tl (Txt.join (Str.ofString "") (l.map fun c => txt [c])) = l := by
    rw [TL.join_eq, TL.tl_join, List.map_map, show TL.tl (Str.ofString "") = [] by decide +kernel]
    exact joinL_one l
  have e2 := congrArg (fun x : List Nat => (⟨x.toArray⟩ : Str)) e
  exact e2
theorem txt_num {n : Nat} : (Str.ofString (toString ((n : Nat) : Int))) = txt (TL.numL n) := by
  have e := congrArg (fun x : List Nat => (⟨x.toArray⟩ : Str)) (TL.tl_num n)
  exact e
theorem val_zeros : ∀ (z : Nat) (l : List Nat), PySem.NumText.digitsVal (List.replicate z 48 ++ l) = PySem.NumText.digitsVal l
  | 0, l => rfl
  | z + 1, l => by
    rw [List.replicate_succ, List.cons_append, PySem.NumText.digitsVal_zero, val_zeros z l]
theorem rep_zeros {n : Int} : repS (Str.ofString "0") n = txt (List.replicate n.toNat 48) := by
  rw [show Str.ofString "0" = txt [48] by decide +kernel]
  unfold repS txt
  congr 1
  show (List.replicate n.toNat [48]).flatten.toArray = _
  rw [List.flatten_replicate_singleton]
theorem take_snoc {α : Type} {l : List α} {j : Nat} {c : α} (h : l[j]? = some c) : l.take (j + 1) = l.take j ++ [c] := by
  rw [List.take_add_one, h]
  rfl


def sp__law_digits : Spc := fun ds hc Q _ => ∃ b r q N sg most, ds = [.ref r, .str (txt sg), .int ((most : Nat) : Int)] ∧ Dk b r q N hc ∧ N < 900000 ∧ 0 < sg.length ∧ sg.length ≤ 100 ∧ 40 ≤ most ∧ most ≤ 1300 ∧ ∀ dg hc', (∀ c ∈ dg, c ∈ sg) → dg ≠ [] → dg.length ≤ most → Dk b r q (N + 1310) hc' → Q (.str (txt dg)) hc'
theorem len__law_digits {ds : List D} {hc : CH} {Q E} (h : sp__law_digits ds hc Q E) : ds.length = 3 := by
  obtain ⟨b, r, q, N, sg, most, rfl, _⟩ := h
  rfl
theorem ones_sum : ∀ l : List Nat, (l.map fun _ => 1).sum = l.length
  | [] => rfl
  | c :: l => by rw [List.map_cons, List.sum_cons, List.length_cons, ones_sum l]; omega
theorem pure__law_digits {ds : List D} {hc : CH} {Q : D → CH → Prop} {E} (h : sp__law_digits ds hc Q E) : c__law_digits { nx := fun _ hc' => Q .non hc', rt := Q } (startC N__law_digits ds) hc := by
  obtain ⟨b, r, q, N, sg, most, rfl, dk, hN, g0, g1, m0, m1, k⟩ := h
  unfold c__law_digits N__law_digits
  have sz := sizeLine_eq
  have rest : ∀ (n : Int) (M : List Sl → CH → Prop) hc2, 1 ≤ n → n ≤ most → Dk b r q (N + 3) hc2 → (cRet (cJn (cC (.str "")) (cLc (cR1 (cCons (cV 3) cNil)) (gN 4) cYes (cOp ixD (cV 1) (cCall sp__law_draw (cCons (cV 0) (cCons (cFn lenD (cCons (cV 1) cNil)) cNil)))) [4])) : CSx) { nx := M, rt := Q } [.val (.ref r), .val (.str (txt sg)), .val (.int ((most : Nat) : Int)), .val (.int n), .un] hc2 := fun n M hc2 n0 n1 dk => by
    walk_at "n"
    refine lc_inv fun R2 hR2 => ?_
    walk_at "n"
    refine hR2 _ _ (fun i acc h' => ∃ dg, acc = (dg.map fun c => txt [c]).map D.str ∧ (∀ c ∈ dg, c ∈ sg) ∧ dg.length = i ∧ Dk b r q (N + 3 + i) h') (by rw [rng_len]; omega) ⟨[], rfl, fun c m => (nomatch m), rfl, dk⟩ (fun j d acc h' Nx2 e I nx2 => ?_) (fun acc h' I => ?_)
    · obtain ⟨dg, rfl, ds, dl, dk⟩ := I
      obtain ⟨rfl, jp⟩ := rng_at e
      clear e
      walk_at "n"
      rw [txt_len]
      refine ⟨by omega, ?_⟩
      refine ⟨b, r, q, _, _, rfl, dk, by omega, by omega, le18 (by omega), fun y hc3 y0 y1 dk => ?_⟩
      have yn : y.toNat < sg.length := by omega
      refine ix_txt (List.getElem?_eq_getElem yn) (by omega) (by omega) ?_
      refine nx2 _ _ ⟨dg ++ [sg[y.toNat]], ?_, fun c m => ?_, by rw [List.length_append, dl]; rfl, dk⟩
      · rw [List.map_append, List.map_append]
        rfl
      · rcases List.mem_append.mp m with m | m
        · exact ds c m
        · rw [List.mem_singleton.mp m]
          exact List.getElem_mem yn
    · obtain ⟨dg, rfl, ds, dl, dk⟩ := I
      rw [rng_len] at dl dk
      walk_at "n"
      refine ⟨_, rfl, ?_, ?_⟩
      · rw [List.map_map, List.length_map, show (Str.ofString "").length = 0 from rfl, Nat.mul_zero, Nat.add_zero]
        have e : (dg.map ((fun s : Str => s.length) ∘ fun c => txt [c])).sum = dg.length := by
          rw [show ((fun s : Str => s.length) ∘ fun c => txt [c]) = fun _ => 1 from funext fun c => txt_len]
          exact ones_sum dg
        rw [e]
        omega
      · rw [join_chars]
        refine k dg h' ds (fun z => ?_) (by omega) (dk.mono (by omega))
        rw [z] at dl
        rw [List.length_nil] at dl
        omega
  refine seq_step fun M hM => ?_
  walk_at "n"
  refine ⟨b, r, q, _, _, rfl, dk, by omega, by decide, by decide, fun y1 hc1 y10 y11 dk => ?_⟩
  walk_at "n"
  refine ⟨b, r, q, _, _, rfl, dk, by omega, by decide, by decide, fun y2 hc2 y20 y21 dk => ?_⟩
  walk_at "n"
  refine ⟨by decide, by decide, ⟨b, r, q, _, _, rfl, dk, by omega, by decide, by decide, fun y3 hc3 y30 y31 dk => ?_⟩⟩
  walk_at "n"
  have y3s : y3 = 0 ∨ y3 = 1 ∨ y3 = 2 ∨ y3 = 3 ∨ y3 = 4 ∨ y3 = 5 ∨ y3 = 6 := by omega
  rcases y3s with rfl | rfl | rfl | rfl | rfl | rfl | rfl
  all_goals
    refine oth_some rfl ?_
    refine oth_some rfl (hM _ _ (rest _ _ _ ?_ ?_ dk)) <;> omega


theorem at__law_digits (T : Txt K mg) (A__law_draw : FnAt P w K mg base 1 "_law_draw" ["_law_deck_here", "_law_many"] sp__law_draw) : FnAt P w K mg base 2 "_law_digits" ["_law_deck_here", "_law_signs", "_law_most"] sp__law_digits :=
  fn_at (c := c__law_digits) T.d__law_digits sc__law_digits (fun f cdv A outer s H E hr => by
    have nd := sc__law_digits.nd
    exact (css_cons (cs_set nd (ce_ix (CE.bo (ce_lst (ca_cons ce_i (ca_cons ce_i (ca_cons (ce_op op_addD (CE.bo ce_i) (CE.bo (ce_f A__law_draw hr (ca_cons (ce_v 0) (ca_cons ce_i ca_nil))))) (ca_cons (ce_op op_addD (CE.bo ce_i) (CE.bo (ce_f A__law_draw hr (ca_cons (ce_v 0) (ca_cons ce_i ca_nil))))) (ca_cons (ce_v 2) ca_nil))))))) (ce_ix (CE.bo (ce_lst (ca_cons ce_i (ca_cons ce_i (ca_cons ce_i (ca_cons ce_i (ca_cons ce_i (ca_cons ce_i (ca_cons ce_i ca_nil))))))))) (ce_f A__law_draw hr (ca_cons (ce_v 0) (ca_cons ce_i ca_nil))))))
    (css_one (cs_ret (CE.bo (ce_join ce_s (ce_lc rfl nd (own := [("_law_k", 4)]) (ci_r1 T.n_range (ca_cons (ce_v 3) ca_nil)) (blkOk_by (N := ["_law_deck_here", "_law_signs", "_law_most", "_law_many", "_law_k"]) (sc := defScope s__law_digits) (own := [("_law_k", 4)]) (by decide +kernel)) (fun _ _ _ _ _ => (cgk_n 4 nd)) (fun _ _ _ _ _ => cts_nil) (fun _ _ _ _ _ => (ce_ix (CE.bo (ce_v 1)) (ce_f A__law_draw hr (ca_cons (ce_v 0) (ca_cons (ce_bf bf_len T.n_len (cba_cons (CE.bo (ce_v 1)) cba_nil)) ca_nil))))))))))))
    (fun ds hc Q E h => len__law_digits h) (fun ds hc Q E h => pure__law_digits h) (fun _ _ _ _ _ _ us hl => match us, hl with | [_, _, _], _ => rfl)

abbrev N__law_dotted : List Str := ["_law_deck_here", "_law_digits_here", "_law_at"]
def c__law_dotted : CSx :=
  (cSeq (cIfS (cT (cOp eqD (cCall sp__law_draw (cCons (cV 0) (cCons (cC (.int 3)) cNil))) (cC (.int 0))))
    (cRet (cLst (cCons (cV 1) (cCons (cC (.int 0)) cNil))))
    cNext)
    (cSeq (cAsg (cOp ixD (cLst (cCons (cC (.int 0)) (cCons (cFn lenD (cCons (cV 1) cNil)) (cCons (cCall sp__law_draw (cCons (cV 0) (cCons (cOp addD (cFn lenD (cCons (cV 1) cNil)) (cC (.int 1))) cNil))) cNil)))) (cCall sp__law_draw (cCons (cV 0) (cCons (cC (.int 3)) cNil)))) (gN 2))
    (cRet (cLst (cCons (cOp addD (cOp addD (cSl (cV 1) cNoP (cSoP (cV 2))) (cC (.str "."))) (cSl (cV 1) (cSoP (cV 2)) cNoP)) (cCons (cOp subD (cFn lenD (cCons (cV 1) cNil)) (cV 2)) cNil))))))

def sp__law_dotted : Spc := fun ds hc Q _ => ∃ b r q N dg, ds = [.ref r, .str (txt dg)] ∧ Dk b r q N hc ∧ N < 900000 ∧ dg.length ≤ 1300 ∧ ∀ sh bh hc', ((sh = dg ∧ bh = 0) ∨ ∃ u v, dg = u ++ v ∧ sh = u ++ 46 :: v ∧ bh = v.length) → Dk b r q (N + 3) hc' → Q (.lst [.str (txt sh), .int ((bh : Nat) : Int)]) hc'
theorem len__law_dotted {ds : List D} {hc : CH} {Q E} (h : sp__law_dotted ds hc Q E) : ds.length = 2 := by
  obtain ⟨b, r, q, N, dg, rfl, _⟩ := h
  rfl
theorem pure__law_dotted {ds : List D} {hc : CH} {Q : D → CH → Prop} {E} (h : sp__law_dotted ds hc Q E) : c__law_dotted { nx := fun _ hc' => Q .non hc', rt := Q } (startC N__law_dotted ds) hc := by
  obtain ⟨b, r, q, N, dg, rfl, dk, hN, hl, k⟩ := h
  unfold c__law_dotted N__law_dotted
  have sz := sizeLine_eq
  refine seq_step fun M hM => ?_
  walk_at "n"
  refine ⟨b, r, q, _, _, rfl, dk, by omega, by decide, by decide, fun y1 hc1 y10 y11 dk => ?_⟩
  refine ite2 (fun z => ?_) (fun z => ?_)
  · walk_at "n"
    exact ⟨by decide, k dg 0 _ (.inl ⟨rfl, rfl⟩) (dk.mono (by omega))⟩
  · refine hM _ _ ?_
    have rest : ∀ (a : Nat) (M : List Sl → CH → Prop) hc2, a ≤ dg.length → Dk b r q (N + 3) hc2 → (∀ sc', M sc' hc2 = True) → True := fun _ _ _ _ _ _ => trivial
    refine seq_step fun M hM => ?_
    have go : ∀ (a : Int) hc2, 0 ≤ a → a ≤ dg.length → Dk b r q (N + 3) hc2 → M [.val (.ref r), .val (.str (txt dg)), .val (.int a)] hc2 := fun a hc2 a0 a1 dk => by
      refine hM _ _ ?_
      obtain ⟨n, rfl⟩ : ∃ n : Nat, a = (n : Int) := ⟨a.toNat, by omega⟩
      have nl : n ≤ dg.length := by omega
      have lt : (dg.take n).length = n := by rw [List.length_take]; omega
      have ld : (dg.drop n).length = dg.length - n := List.length_drop
      walk_at "n"
      refine sl_head (by omega) ?_
      walk_at "n"
      rw [txt_dot, txt_len, lt]
      refine ⟨by rw [txt_len, List.length_singleton]; omega, ?_⟩
      refine ⟨by rw [txt_len]; omega, ?_⟩
      rw [txt_cut, cut_from]
      walk_at "n"
      rw [txt_app, txt_app, txt_len, txt_len, txt_len]
      refine ⟨by rw [List.length_append, lt, ld, List.length_singleton]; omega, by omega, by decide, ?_⟩
      rw [show (dg.length : Int) - n = ((dg.length - n : Nat) : Int) by omega]
      refine k _ _ _ (.inr ⟨dg.take n, dg.drop n, (List.take_append_drop n dg).symm, ?_, ld.symm⟩) dk
      rw [List.append_assoc]
      rfl
    walk_at "n"
    rw [txt_len]
    refine ⟨by omega, by omega, ?_⟩
    refine ⟨b, r, q, _, _, rfl, dk, by omega, by omega, le18 (by omega), fun y2 hc2 y20 y21 dk => ?_⟩
    walk_at "n"
    refine ⟨by decide, ⟨b, r, q, _, _, rfl, dk, by omega, by decide, by decide, fun y3 hc3 y30 y31 dk => ?_⟩⟩
    walk_at "n"
    have y3s : y3 = 0 ∨ y3 = 1 ∨ y3 = 2 := by omega
    rcases y3s with rfl | rfl | rfl
    all_goals
      refine oth_some rfl ?_
      exact go _ _ (by omega) (by omega) dk


theorem at__law_dotted (T : Txt K mg) (A__law_draw : FnAt P w K mg base 1 "_law_draw" ["_law_deck_here", "_law_many"] sp__law_draw) : FnAt P w K mg base 2 "_law_dotted" ["_law_deck_here", "_law_digits_here"] sp__law_dotted :=
  fn_at (c := c__law_dotted) T.d__law_dotted sc__law_dotted (fun f cdv A outer s H E hr => by
    have nd := sc__law_dotted.nd
    exact (css_cons (cs_if (ct_cmp (op_eqDD hr.units) (CE.bo (ce_f A__law_draw hr (ca_cons (ce_v 0) (ca_cons ce_i ca_nil)))) (CE.bo ce_i))
    (css_one (cs_ret (CE.bo (ce_lst (ca_cons (ce_v 1) (ca_cons ce_i ca_nil))))))
    css_nil)
    (css_cons (cs_set nd (ce_ix (CE.bo (ce_lst (ca_cons ce_i (ca_cons (ce_bf bf_len T.n_len (cba_cons (CE.bo (ce_v 1)) cba_nil)) (ca_cons (ce_f A__law_draw hr (ca_cons (ce_v 0) (ca_cons (ce_op op_addD (CE.bo (ce_bf bf_len T.n_len (cba_cons (CE.bo (ce_v 1)) cba_nil))) (CE.bo ce_i)) ca_nil))) ca_nil))))) (ce_f A__law_draw hr (ca_cons (ce_v 0) (ca_cons ce_i ca_nil)))))
    (css_one (cs_ret (CE.bo (ce_lst (ca_cons (ce_op op_addD (CE.bo (ce_op op_addD (CE.bo (ce_sl (CE.bo (ce_v 1)) co_none (co_some (ce_v 2)))) (CE.bo ce_s))) (CE.bo (ce_sl (CE.bo (ce_v 1)) (co_some (ce_v 2)) co_none))) (ca_cons (ce_op op_subD (CE.bo (ce_bf bf_len T.n_len (cba_cons (CE.bo (ce_v 1)) cba_nil))) (CE.bo (ce_v 2))) ca_nil)))))))))
    (fun ds hc Q E h => len__law_dotted h) (fun ds hc Q E h => pure__law_dotted h) (fun _ _ _ _ _ _ us hl => match us, hl with | [_, _], _ => rfl)

abbrev N__law_power : List Str := ["_law_deck_here", "_law_most", "_law_number", "_law_sign", "_law_zeros"]
def c__law_power : CSx :=
  (cSeq (cAsg (cOp ixD (cLst (cCons (cC (.int 0)) (cCons (cC (.int 1)) (cCons (cCall sp__law_draw (cCons (cV 0) (cCons (cC (.int 30)) cNil))) (cCons (cCall sp__law_draw (cCons (cV 0) (cCons (cOp addD (cV 1) (cC (.int 1))) cNil))) (cCons (cV 1) cNil)))))) (cCall sp__law_draw (cCons (cV 0) (cCons (cC (.int 5)) cNil)))) (gN 2))
    (cSeq (cAsg (cOp ixD (cLst (cCons (cC (.str "")) (cCons (cC (.str "+")) (cCons (cC (.str "-")) cNil)))) (cCall sp__law_draw (cCons (cV 0) (cCons (cC (.int 3)) cNil)))) (gN 3))
    (cSeq (cAsg (cOp mulTD (cC (.str "0")) (cOp ixD (cLst (cCons (cC (.int 0)) (cCons (cC (.int 0)) (cCons (cC (.int 0)) (cCons (cC (.int 1)) (cCons (cC (.int 3)) (cCons (cC (.int 40)) cNil))))))) (cCall sp__law_draw (cCons (cV 0) (cCons (cC (.int 6)) cNil))))) (gN 4))
    (cRet (cLst (cCons (cOp addD (cOp addD (cV 3) (cV 4)) (cFn strD (cCons (cV 2) cNil))) (cCons (cIf (cT (cOp eqD (cV 3) (cC (.str "-")))) (cOp subD (cC (.int 0)) (cV 2)) (cV 2)) cNil)))))))

def sp__law_power : Spc := fun ds hc Q _ => ∃ b r q N most, ds = [.ref r, .int ((most : Nat) : Int)] ∧ Dk b r q N hc ∧ N < 900000 ∧ 30 ≤ most ∧ most ≤ 1400 ∧ ∀ pw k hc', PwT most pw k → pw.length ≤ 1000 → Dk b r q (N + 5) hc' → Q (.lst [.str (txt pw), .int k]) hc'
theorem len__law_power {ds : List D} {hc : CH} {Q E} (h : sp__law_power ds hc Q E) : ds.length = 2 := by
  obtain ⟨b, r, q, N, most, rfl, _⟩ := h
  rfl
theorem pure__law_power {ds : List D} {hc : CH} {Q : D → CH → Prop} {E} (h : sp__law_power ds hc Q E) : c__law_power { nx := fun _ hc' => Q .non hc', rt := Q } (startC N__law_power ds) hc := by
  obtain ⟨b, r, q, N, most, rfl, dk, hN, m0, m1, k⟩ := h
  unfold c__law_power N__law_power
  have sz := sizeLine_eq
  refine seq_step fun M hM => ?_
  have go : ∀ (n : Nat) hc2, n ≤ most → Dk b r q (N + 3) hc2 → M [.val (.ref r), .val (.int ((most : Nat) : Int)), .val (.int (n : Int)), .un, .un] hc2 := fun n hc2 nm dk => by
    refine hM _ _ ?_
    refine seq_step fun M hM => ?_
    walk_at "n"
    refine ⟨by decide, ⟨b, r, q, _, _, rfl, dk, by omega, by decide, by decide, fun y1 hc1 y10 y11 dk => ?_⟩⟩
    walk_at "n"
    have go2 : ∀ sg : List Nat, (sg = [] ∨ sg = [43] ∨ sg = [45]) → M [.val (.ref r), .val (.int ((most : Nat) : Int)), .val (.int (n : Int)), .val (.str (txt sg)), .un] hc1 := fun sg hsg => by
      refine hM _ _ ?_
      refine seq_step fun M hM => ?_
      have sl : sg.length ≤ 1 := by rcases hsg with rfl | rfl | rfl <;> decide
      have go3 : ∀ (z : Nat) hc3, z ≤ 40 → Dk b r q (N + 5) hc3 → M [.val (.ref r), .val (.int ((most : Nat) : Int)), .val (.int (n : Int)), .val (.str (txt sg)), .val (.str (txt (List.replicate z 48)))] hc3 := fun z hc3 z1 dk => by
        refine hM _ _ ?_
        have nl : (TL.numL n).length ≤ 4 := TL.numL_len (by decide) (by omega)
        have lr : (List.replicate z 48).length = z := List.length_replicate
        walk_at "n"
        rw [txt_app, txt_len, txt_len, txt_minus, txt_num]
        have nb : ((n : Nat) : Int).natAbs < 2 ^ 12900 := by
          refine Nat.lt_of_lt_of_le (show ((n : Nat) : Int).natAbs < 2 ^ 11 by omega) (Nat.pow_le_pow_right (by decide) (by decide))
        refine ⟨by rw [lr]; omega, nb, ?_⟩
        clear nb
        rw [txt_app, txt_len, txt_len]
        refine ⟨by rw [List.length_append, lr]; omega, ?_⟩
        have pt : ∀ kk : Int, (kk = if sg = [45] then 0 - (n : Int) else (n : Int)) → PwT most (sg ++ List.replicate z 48 ++ TL.numL n) kk := fun kk hk => by
          refine ⟨sg, List.replicate z 48 ++ TL.numL n, by rw [List.append_assoc], hsg, ?_, ?_, ?_, ?_⟩
          · intro c hc
            rcases List.mem_append.mp hc with hc | hc
            · rw [List.eq_of_mem_replicate hc]
              decide
            · exact TL.numL_digits n c hc
          · intro e
            exact TL.numL_ne n (List.append_eq_nil_iff.mp e).2
          · rw [val_zeros, TL.numL_val]
            exact nm
          · rw [val_zeros, TL.numL_val]
            exact hk
        have len : (sg ++ List.replicate z 48 ++ TL.numL n).length ≤ 1000 := by
          rw [List.length_append, List.length_append, lr]
          omega
        refine ite2 (fun e => ?_) (fun e => ?_)
        · have e := txt_inj.mp (of_decide_eq_true e)
          walk_at "n"
          exact ⟨by decide, k _ _ _ (pt _ (by rw [if_pos e])) len dk⟩
        · have e : ¬ sg = [45] := fun z => e (decide_eq_true (txt_inj.mpr z))
          walk_at "n"
          exact ⟨by decide, k _ _ _ (pt _ (by rw [if_neg e])) len dk⟩
      walk_at "n"
      refine ⟨by decide, ⟨b, r, q, _, _, rfl, dk, by omega, by decide, by decide, fun y2 hc2 y20 y21 dk => ?_⟩⟩
      walk_at "n"
      have y2s : y2 = 0 ∨ y2 = 1 ∨ y2 = 2 ∨ y2 = 3 ∨ y2 = 4 ∨ y2 = 5 := by omega
      rcases y2s with rfl | rfl | rfl | rfl | rfl | rfl
      all_goals
        refine oth_some rfl ?_
        walk_at "n"
        refine ⟨by decide, ?_⟩
        rw [rep_zeros]
      · exact go3 0 _ (by decide) dk
      · exact go3 0 _ (by decide) dk
      · exact go3 0 _ (by decide) dk
      · exact go3 1 _ (by decide) dk
      · exact go3 3 _ (by decide) dk
      · exact go3 40 _ (by decide) dk
    have y1s : y1 = 0 ∨ y1 = 1 ∨ y1 = 2 := by omega
    rcases y1s with rfl | rfl | rfl
    all_goals refine oth_some rfl ?_
    · exact go2 [] (.inl rfl)
    · rw [txt_plus]
      exact go2 [43] (.inr (.inl rfl))
    · rw [txt_minus]
      exact go2 [45] (.inr (.inr rfl))
  walk_at "n"
  refine ⟨b, r, q, _, _, rfl, dk, by omega, by decide, by decide, fun y1 hc1 y10 y11 dk => ?_⟩
  walk_at "n"
  refine ⟨b, r, q, _, _, rfl, dk, by omega, by omega, le18 (by omega), fun y2 hc2 y20 y21 dk => ?_⟩
  walk_at "n"
  refine ⟨by decide, ⟨b, r, q, _, _, rfl, dk, by omega, by decide, by decide, fun y3 hc3 y30 y31 dk => ?_⟩⟩
  walk_at "n"
  have y3s : y3 = 0 ∨ y3 = 1 ∨ y3 = 2 ∨ y3 = 3 ∨ y3 = 4 := by omega
  obtain ⟨n1, rfl⟩ : ∃ n : Nat, y1 = (n : Int) := ⟨y1.toNat, by omega⟩
  obtain ⟨n2, rfl⟩ : ∃ n : Nat, y2 = (n : Int) := ⟨y2.toNat, by omega⟩
  rcases y3s with rfl | rfl | rfl | rfl | rfl
  all_goals refine oth_some rfl ?_
  · exact go 0 _ (by omega) dk
  · exact go 1 _ (by omega) dk
  · exact go n1 _ (by omega) dk
  · exact go n2 _ (by omega) dk
  · exact go most _ (by omega) dk


theorem at__law_power (T : Txt K mg) (A__law_draw : FnAt P w K mg base 1 "_law_draw" ["_law_deck_here", "_law_many"] sp__law_draw) : FnAt P w K mg base 2 "_law_power" ["_law_deck_here", "_law_most"] sp__law_power :=
  fn_at (c := c__law_power) T.d__law_power sc__law_power (fun f cdv A outer s H E hr => by
    have nd := sc__law_power.nd
    exact (css_cons (cs_set nd (ce_ix (CE.bo (ce_lst (ca_cons ce_i (ca_cons ce_i (ca_cons (ce_f A__law_draw hr (ca_cons (ce_v 0) (ca_cons ce_i ca_nil))) (ca_cons (ce_f A__law_draw hr (ca_cons (ce_v 0) (ca_cons (ce_op op_addD (CE.bo (ce_v 1)) (CE.bo ce_i)) ca_nil))) (ca_cons (ce_v 1) ca_nil))))))) (ce_f A__law_draw hr (ca_cons (ce_v 0) (ca_cons ce_i ca_nil)))))
    (css_cons (cs_set nd (ce_ix (CE.bo (ce_lst (ca_cons ce_s (ca_cons ce_s (ca_cons ce_s ca_nil))))) (ce_f A__law_draw hr (ca_cons (ce_v 0) (ca_cons ce_i ca_nil)))))
    (css_cons (cs_set nd (ce_op op_mulTD (CE.bo ce_s) (CE.bo (ce_ix (CE.bo (ce_lst (ca_cons ce_i (ca_cons ce_i (ca_cons ce_i (ca_cons ce_i (ca_cons ce_i (ca_cons ce_i ca_nil)))))))) (ce_f A__law_draw hr (ca_cons (ce_v 0) (ca_cons ce_i ca_nil)))))))
    (css_one (cs_ret (CE.bo (ce_lst (ca_cons (ce_op op_addD (CE.bo (ce_op op_addD (CE.bo (ce_v 3)) (CE.bo (ce_v 4)))) (CE.bo (ce_bt (bt_str T.lim) T.n_str (cba_cons (CE.bo (ce_v 2)) cba_nil)))) (ca_cons (ce_if (ct_cmp (op_eqDD hr.units) (CE.bo (ce_v 3)) (CE.bo ce_s)) (ce_op op_subD (CE.bo ce_i) (CE.bo (ce_v 2))) (ce_v 2)) ca_nil))))))))))
    (fun ds hc Q E h => len__law_power h) (fun ds hc Q E h => pure__law_power h) (fun _ _ _ _ _ _ us hl => match us, hl with | [_, _], _ => rfl)

abbrev N__law_read : List Str := ["_law_digits_here", "_law_base", "_law_found", "_law_sign"]
def c__law_read : CSx :=
  (cSeq (cAsg (cC (.int 0)) (gN 2))
    (cSeq (cFor (cItS (cV 0)) (gN 3)
    (cAsg (cOp addD (cOp mulD (cV 2) (cV 1)) (cIxS (cC (.str "0123456789abcdef")) (cV 3))) (gN 2)))
    (cRet (cV 2))))

def sp__law_read : Spc := fun ds hc Q _ => ∃ dg base, ds = [.str (txt dg), .int ((base : Nat) : Int)] ∧ base ≤ 16 ∧ (∀ c ∈ dg, c ∈ hexL) ∧ dg.length ≤ 100000 ∧ Q (.int ((rdV base dg : Nat) : Int)) hc
theorem len__law_read {ds : List D} {hc : CH} {Q E} (h : sp__law_read ds hc Q E) : ds.length = 2 := by
  obtain ⟨dg, base, rfl, _⟩ := h
  rfl
theorem pure__law_read {ds : List D} {hc : CH} {Q : D → CH → Prop} {E} (h : sp__law_read ds hc Q E) : c__law_read { nx := fun _ hc' => Q .non hc', rt := Q } (startC N__law_read ds) hc := by
  obtain ⟨dg, base, rfl, hb, hd, hl, q⟩ := h
  unfold c__law_read N__law_read
  refine seq_step fun M hM => ?_
  walk_at "n"
  refine hM _ _ ?_
  refine seq_step fun M hM => ?_
  refine for_step fun R hR => ?_
  walk_at "n"
  refine hR _ _ (fun i sc h => h = hc ∧ ∃ o3, sc = [.val (.str (txt dg)), .val (.int ((base : Nat) : Int)), .val (.int ((rdV base (dg.take i) : Nat) : Int)), o3]) ⟨rfl, _, rfl⟩ (fun j d sc h Nx e I nx => ?_) (fun sc h I => ?_)
  · obtain ⟨rfl, o3, rfl⟩ := I
    obtain ⟨c, ec, rfl⟩ := signs_at e
    have ec' : dg[j]? = some c := by
      rw [← Array.getElem?_toList] at ec
      exact ec
    have ch := hd c (List.mem_of_getElem? ec')
    walk_at "n"
    refine ⟨mulOk_r (by omega), _, _, hex_at ch, ?_⟩
    walk_at "n"
    refine nx _ _ ⟨rfl, .val (.str ⟨#[c]⟩), ?_⟩
    rw [take_snoc ec', rdV_snoc, Int.natCast_add, Int.natCast_mul]
  · obtain ⟨rfl, o3, rfl⟩ := I
    refine hM _ _ ?_
    walk_at "n"
    rw [signs_len, txt_len, List.take_length]
    exact q


theorem at__law_read (T : Txt K mg)  : FnAt P w K mg base 1 "_law_read" ["_law_digits_here", "_law_base"] sp__law_read :=
  fn_at (c := c__law_read) T.d__law_read sc__law_read (fun f cdv A outer s H E hr => by
    have nd := sc__law_read.nd
    exact (css_cons (cs_set nd ce_i)
    (css_cons (cs_for PassesOwn.never rfl (ci_str (ce_v 0)) (cg_n 3 nd)
    (css_one (cs_set nd (ce_op op_addD (CE.bo (ce_op op_mulD (CE.bo (ce_v 2)) (CE.bo (ce_v 1)))) (CE.bo (ce_index ce_s (ce_v 3)))))))
    (css_one (cs_ret (CE.bo (ce_v 2)))))))
    (fun ds hc Q E h => len__law_read h) (fun ds hc Q E h => pure__law_read h) (fun _ _ _ _ _ _ us hl => match us, hl with | [_, _], _ => rfl)

abbrev N__law_text : List Str := ["_law_deck_here", "_law_way", "_law_front", "_law_sign", "_law_digits_here", "_law_shown", "_law_behind", "_law_power_here", "_law_k"]
def c__law_text : CSx :=
  (cSeq (cPar 1 2 (cCons (cCall sp__law_draw (cCons (cV 0) (cCons (cC (.int 7)) cNil))) (cCons (cOp ixD (cLst (cCons (cC (.str "")) (cCons (cC (.str "")) (cCons (cC (.str "-")) (cCons (cC (.str "+")) cNil))))) (cCall sp__law_draw (cCons (cV 0) (cCons (cC (.int 4)) cNil)))) cNil)))
    (cSeq (cAsg (cFn intFD (cCons (cOp eqD (cV 2) (cC (.str "-"))) cNil)) (gN 3))
    (cSeq (cIfS (cT (cOp eqD (cV 1) (cC (.int 0))))
    (cRet (cLst (cCons (cOp addD (cV 2) (cC (.str "inf"))) (cCons (cTup (cCons (cV 3) (cCons (cC (.str "inf")) cNil))) cNil))))
    cNext)
    (cSeq (cIfS (cT (cOp ltD (cV 1) (cC (.int 3))))
    (cSeq (cAsg (cCall sp__law_digits (cCons (cV 0) (cCons (cC (.str "0123456789abcdef")) (cCons (cC (.int 300)) cNil)))) (gN 4))
    (cSeq (cAsg (cCall sp__law_dotted (cCons (cV 0) (cCons (cV 4) cNil))) (gUn 2 (gCons' (gN 5) (gCons' (gN 6) gNil'))))
    (cSeq (cAsg (cCall sp__law_power (cCons (cV 0) (cCons (cC (.int 1400)) cNil))) (gUn 2 (gCons' (gN 7) (gCons' (gN 8) gNil'))))
    (cRet (cLst (cCons (cOp addD (cOp addD (cOp addD (cOp addD (cV 2) (cC (.str "0x"))) (cV 5)) (cC (.str "p"))) (cV 7)) (cCons (cTup (cCons (cV 3) (cCons (cC (.int 2)) (cCons (cCall sp__law_read (cCons (cV 4) (cCons (cC (.int 16)) cNil))) (cCons (cOp subD (cV 8) (cOp mulD (cC (.int 4)) (cV 6))) cNil))))) cNil)))))))
    cNext)
    (cSeq (cAsg (cCall sp__law_digits (cCons (cV 0) (cCons (cOp ixD (cLst (cCons (cC (.str "0123456789")) (cCons (cC (.str "0123456789")) (cCons (cC (.str "01")) cNil)))) (cCall sp__law_draw (cCons (cV 0) (cCons (cC (.int 3)) cNil)))) (cCons (cC (.int 1300)) cNil)))) (gN 4))
    (cSeq (cAsg (cCall sp__law_dotted (cCons (cV 0) (cCons (cV 4) cNil))) (gUn 2 (gCons' (gN 5) (gCons' (gN 6) gNil'))))
    (cSeq (cIfS (cT (cOp eqD (cV 1) (cC (.int 3))))
    (cRet (cLst (cCons (cOp addD (cV 2) (cV 5)) (cCons (cTup (cCons (cV 3) (cCons (cC (.int 10)) (cCons (cCall sp__law_read (cCons (cV 4) (cCons (cC (.int 10)) cNil))) (cCons (cOp subD (cC (.int 0)) (cV 6)) cNil))))) cNil))))
    cNext)
    (cSeq (cAsg (cCall sp__law_power (cCons (cV 0) (cCons (cC (.int 1200)) cNil))) (gUn 2 (gCons' (gN 7) (gCons' (gN 8) gNil'))))
    (cRet (cLst (cCons (cOp addD (cOp addD (cOp addD (cV 2) (cV 5)) (cC (.str "e"))) (cV 7)) (cCons (cTup (cCons (cV 3) (cCons (cC (.int 10)) (cCons (cCall sp__law_read (cCons (cV 4) (cCons (cC (.int 10)) cNil))) (cCons (cOp subD (cV 8) (cV 6)) cNil))))) cNil))))))))))))

def SgT (sg : List Nat) : Prop := sg = [] ∨ sg = [43] ∨ sg = [45]
def sgI (sg : List Nat) : Int := if sg = [45] then 1 else 0
def sp__law_text : Spc := fun ds hc Q _ => ∃ b r q N, ds = [.ref r] ∧ Dk b r q N hc ∧ N < 800000 ∧ ∀ sg rest out hc', SgT sg → NumT rest out → (sg ++ rest).length ≤ 100000 → Dk b r q (N + 1400) hc' → Q (.lst [.str (txt (sg ++ rest)), .tup (.int (sgI sg) :: out)]) hc'
theorem len__law_text {ds : List D} {hc : CH} {Q E} (h : sp__law_text ds hc Q E) : ds.length = 1 := by
  obtain ⟨b, r, q, N, rfl, _⟩ := h
  rfl
theorem sh_len {sg : List Nat} {most : Nat} {sh dg : List Nat} {b : Nat} (h : ShT sg most sh dg b) : sh.length ≤ most + 1 := by
  have := h.len
  rcases h.eq with ⟨rfl, _⟩ | ⟨u, v, rfl, rfl, _⟩
  · omega
  · rw [List.length_append, List.length_cons]
    rw [List.length_append] at this
    omega
theorem pure__law_text {ds : List D} {hc : CH} {Q : D → CH → Prop} {E} (h : sp__law_text ds hc Q E) : c__law_text { nx := fun _ hc' => Q .non hc', rt := Q } (startC N__law_text ds) hc := by
  obtain ⟨b, r, q, N, rfl, dk, hN, k⟩ := h
  unfold c__law_text N__law_text
  have sz := sizeLine_eq
  refine seq_step fun M hM => ?_
  have go : ∀ (way : Int) (sg : List Nat) hc2, SgT sg → Dk b r q (N + 2) hc2 → M [.val (.ref r), .val (.int way), .val (.str (txt sg)), .un, .un, .un, .un, .un, .un] hc2 := fun way sg hc2 hsg dk => by
    have sgl : sg.length ≤ 1 := by rcases hsg with rfl | rfl | rfl <;> decide
    refine hM _ _ ?_
    refine seq_step fun M hM => ?_
    walk_at "n"
    rw [txt_minus, show decide (txt sg = txt [45]) = decide (sg = [45]) from decide_eq_decide.mpr txt_inj]
    rw [show (if decide (sg = [45]) = true then (1 : Int) else 0) = sgI sg by
      unfold sgI
      by_cases z : sg = [45]
      · rw [if_pos z, if_pos (decide_eq_true z)]
      · rw [if_neg z, if_neg (by rw [decide_eq_false z]; exact Bool.false_ne_true)]]
    refine hM _ _ ?_
    refine seq_step fun M hM => ?_
    walk_at "n"
    refine ite2 (fun z => ?_) (fun z => ?_)
    · walk_at "n"
      rw [txt_inf, txt_app, txt_len, txt_len]
      refine ⟨by show _ + 3 ≤ _; omega, by decide, by decide, ?_⟩
      refine k sg [105, 110, 102] [.str "inf"] _ hsg (.inl ⟨rfl, rfl⟩) (by rw [List.length_append]; show _ + 3 ≤ _; omega) (dk.mono (by omega))
    clear z
    refine hM _ _ ?_
    refine seq_step fun M hM => ?_
    walk_at "n"
    refine ite2 (fun z => ?_) (fun z => ?_)
    · clear z
      refine seq_step fun M2 hM2 => ?_
      walk_at "n"
      rw [show (D.str "0123456789abcdef") = .str (txt hexL) from congrArg D.str txt_hexs]
      refine ⟨b, r, q, _, hexL, 300, rfl, dk, by omega, by decide, by decide, by decide, by decide, fun dg hc3 d1 d2 d3 dk => ?_⟩
      refine hM2 _ _ ?_
      refine seq_step fun M2 hM2 => ?_
      walk_at "n"
      refine ⟨b, r, q, _, dg, rfl, dk, by omega, by omega, fun sh bh hc4 hs dk => ?_⟩
      walk_at "n"
      refine hM2 _ _ ?_
      have s : ShT hexL 300 sh dg bh := ⟨hs, d1, d2, d3⟩
      have sl := sh_len s
      refine seq_step fun M2 hM2 => ?_
      walk_at "n"
      refine ⟨b, r, q, _, 1400, rfl, dk, by omega, by decide, by decide, fun pw kk hc5 hp pl dk => ?_⟩
      walk_at "n"
      refine hM2 _ _ ?_
      walk_at "n"
      rw [show Str.ofString "0x" = txt [48, 120] by decide +kernel, show Str.ofString "p" = txt [112] by decide +kernel]
      simp only [txt_app, txt_len, List.length_append, List.length_cons, List.length_nil]
      refine ⟨by omega, by omega, by omega, by omega, ?_⟩
      refine ⟨dg, 16, rfl, by decide, d1, by omega, ?_⟩
      rw [rdV_hex]
      walk_at "n"
      refine ⟨mulOk_l (by decide), by decide, by decide, ?_⟩
      have e : sg ++ [48, 120] ++ sh ++ [112] ++ pw = sg ++ (48 :: 120 :: (sh ++ 112 :: pw)) := by
        simp only [List.append_assoc, List.cons_append, List.nil_append]
      rw [e]
      exact k sg _ _ _ hsg (.inr (.inl ⟨sh, pw, dg, bh, kk, rfl, s, hp, rfl⟩)) (by simp only [List.length_append, List.length_cons]; omega) (dk.mono (by omega))
    · clear z
      refine hM _ _ ?_
      refine seq_step fun M hM => ?_
      walk_at "n"
      refine ⟨by decide, ⟨b, r, q, _, _, rfl, dk, by omega, by decide, by decide, fun y1 hc1 y10 y11 dk => ?_⟩⟩
      walk_at "n"
      have go2 : ∀ (l : List Nat) (hl0 : 0 < l.length) (hl1 : l.length ≤ 100) (hl : ∀ c ∈ l, c ∈ decL), sp__law_digits [.ref r, .str (txt l), .int 1300] hc1 (fun d hc' => M [.val (.ref r), .val (.int way), .val (.str (txt sg)), .val (.int (sgI sg)), .val d, .un, .un, .un, .un] hc') (fun _ _ => False) := fun l hl0 hl1 hl => by
        refine ⟨b, r, q, _, l, 1300, rfl, dk, by omega, hl0, hl1, by decide, by decide, fun dg hc3 d1 d2 d3 dk => ?_⟩
        have d1 : ∀ c ∈ dg, c ∈ decL := fun c m => hl c (d1 c m)
        have d1x : ∀ c ∈ dg, c ∈ hexL := fun c m => by
          have := d1 c m
          simp only [List.mem_cons, List.not_mem_nil, or_false] at this ⊢
          omega
        refine hM _ _ ?_
        refine seq_step fun M2 hM2 => ?_
        walk_at "n"
        refine ⟨b, r, q, _, dg, rfl, dk, by omega, by omega, fun sh bh hc4 hs dk => ?_⟩
        walk_at "n"
        refine hM2 _ _ ?_
        have s : ShT decL 1300 sh dg bh := ⟨hs, d1, d2, d3⟩
        have sl := sh_len s
        refine seq_step fun M2 hM2 => ?_
        walk_at "n"
        refine ite2 (fun z => ?_) (fun z => ?_)
        · clear z
          walk_at "n"
          simp only [txt_app, txt_len, List.length_append, List.length_cons, List.length_nil]
          refine ⟨by omega, ?_⟩
          refine ⟨dg, 10, rfl, by decide, d1x, by omega, ?_⟩
          rw [rdV_dec (decL_all d1)]
          walk_at "n"
          refine ⟨by decide, by decide, ?_⟩
          exact k sg _ _ _ hsg (.inr (.inr ⟨sh, [], dg, bh, 0, (List.append_nil _).symm, s, .inl ⟨rfl, rfl⟩, rfl⟩)) (by simp only [List.length_append]; omega) (dk.mono (by omega))
        · clear z
          refine hM2 _ _ ?_
          refine seq_step fun M2 hM2 => ?_
          walk_at "n"
          refine ⟨b, r, q, _, 1200, rfl, dk, by omega, by decide, by decide, fun pw kk hc5 hp pl dk => ?_⟩
          walk_at "n"
          refine hM2 _ _ ?_
          walk_at "n"
          rw [show Str.ofString "e" = txt [101] by decide +kernel]
          simp only [txt_app, txt_len, List.length_append, List.length_cons, List.length_nil]
          refine ⟨by omega, by omega, by omega, ?_⟩
          refine ⟨dg, 10, rfl, by decide, d1x, by omega, ?_⟩
          rw [rdV_dec (decL_all d1)]
          walk_at "n"
          refine ⟨by decide, by decide, ?_⟩
          have e : sg ++ sh ++ [101] ++ pw = sg ++ (sh ++ 101 :: pw) := by
            simp only [List.append_assoc, List.cons_append, List.nil_append]
          rw [e]
          exact k sg _ _ _ hsg (.inr (.inr ⟨sh, 101 :: pw, dg, bh, kk, rfl, s, .inr ⟨pw, rfl, hp⟩, rfl⟩)) (by simp only [List.length_append, List.length_cons]; omega) (dk.mono (by omega))
      have y1s : y1 = 0 ∨ y1 = 1 ∨ y1 = 2 := by omega
      rcases y1s with rfl | rfl | rfl
      all_goals refine oth_some rfl ?_
      · rw [show (D.str "0123456789") = .str (txt decL) from congrArg D.str txt_digits]
        exact go2 decL (by decide) (by decide) fun c m => m
      · rw [show (D.str "0123456789") = .str (txt decL) from congrArg D.str txt_digits]
        exact go2 decL (by decide) (by decide) fun c m => m
      · rw [show (D.str "01") = .str (txt [48, 49]) from congrArg D.str (show Str.ofString "01" = txt [48, 49] by decide +kernel)]
        exact go2 [48, 49] (by decide) (by decide) fun c m => by
          simp only [List.mem_cons, List.not_mem_nil, or_false] at m ⊢
          omega
  walk_at "n"
  refine ⟨b, r, q, _, _, rfl, dk, by omega, by decide, by decide, fun y1 hc1 y10 y11 dk => ?_⟩
  walk_at "n"
  refine ⟨by decide, ⟨b, r, q, _, _, rfl, dk, by omega, by decide, by decide, fun y3 hc3 y30 y31 dk => ?_⟩⟩
  walk_at "n"
  have y3s : y3 = 0 ∨ y3 = 1 ∨ y3 = 2 ∨ y3 = 3 := by omega
  rcases y3s with rfl | rfl | rfl | rfl
  all_goals refine oth_some rfl ?_
  · exact go y1 [] _ (.inl rfl) dk
  · exact go y1 [] _ (.inl rfl) dk
  · rw [txt_minus]
    exact go y1 [45] _ (.inr (.inr rfl)) dk
  · rw [txt_plus]
    exact go y1 [43] _ (.inr (.inl rfl)) dk


theorem at__law_text (T : Txt K mg) (A__law_draw : FnAt P w K mg base 1 "_law_draw" ["_law_deck_here", "_law_many"] sp__law_draw) (A__law_digits : FnAt P w K mg base 2 "_law_digits" ["_law_deck_here", "_law_signs", "_law_most"] sp__law_digits) (A__law_dotted : FnAt P w K mg base 2 "_law_dotted" ["_law_deck_here", "_law_digits_here"] sp__law_dotted) (A__law_power : FnAt P w K mg base 2 "_law_power" ["_law_deck_here", "_law_most"] sp__law_power) (A__law_read : FnAt P w K mg base 1 "_law_read" ["_law_digits_here", "_law_base"] sp__law_read) : FnAt P w K mg base 3 "_law_text" ["_law_deck_here"] sp__law_text :=
  fn_at (c := c__law_text) T.d__law_text sc__law_text (fun f cdv A outer s H E hr => by
    have nd := sc__law_text.nd
    exact (css_cons (cs_par rfl nd (ca_cons (ce_f A__law_draw hr (ca_cons (ce_v 0) (ca_cons ce_i ca_nil))) (ca_cons (ce_ix (CE.bo (ce_lst (ca_cons ce_s (ca_cons ce_s (ca_cons ce_s (ca_cons ce_s ca_nil)))))) (ce_f A__law_draw hr (ca_cons (ce_v 0) (ca_cons ce_i ca_nil)))) ca_nil)))
    (css_cons (cs_set nd (ce_bt bt_int T.n_int (cba_cons (CE.bo (ce_cmp (op_eqDD hr.units) (CE.bo (ce_v 2)) (CE.bo ce_s))) cba_nil)))
    (css_cons (cs_if (ct_cmp (op_eqDD hr.units) (CE.bo (ce_v 1)) (CE.bo ce_i))
    (css_one (cs_ret (CE.bo (ce_lst (ca_cons (ce_op op_addD (CE.bo (ce_v 2)) (CE.bo ce_s)) (ca_cons (ce_tup (ca_cons (ce_v 3) (ca_cons ce_s ca_nil))) ca_nil))))))
    css_nil)
    (css_cons (cs_if (ct_cmp op_ltD (CE.bo (ce_v 1)) (CE.bo ce_i))
    (css_cons (cs_set nd (ce_f A__law_digits hr (ca_cons (ce_v 0) (ca_cons ce_s (ca_cons ce_i ca_nil)))))
    (css_cons (cs_asg (ce_f A__law_dotted hr (ca_cons (ce_v 0) (ca_cons (ce_v 4) ca_nil))) (cg_u rfl (cgs_cons (cg_n 5 nd) (cgs_cons (cg_n 6 nd) cgs_nil))))
    (css_cons (cs_asg (ce_f A__law_power hr (ca_cons (ce_v 0) (ca_cons ce_i ca_nil))) (cg_u rfl (cgs_cons (cg_n 7 nd) (cgs_cons (cg_n 8 nd) cgs_nil))))
    (css_one (cs_ret (CE.bo (ce_lst (ca_cons (ce_op op_addD (CE.bo (ce_op op_addD (CE.bo (ce_op op_addD (CE.bo (ce_op op_addD (CE.bo (ce_v 2)) (CE.bo ce_s))) (CE.bo (ce_v 5)))) (CE.bo ce_s))) (CE.bo (ce_v 7))) (ca_cons (ce_tup (ca_cons (ce_v 3) (ca_cons ce_i (ca_cons (ce_f A__law_read hr (ca_cons (ce_v 4) (ca_cons ce_i ca_nil))) (ca_cons (ce_op op_subD (CE.bo (ce_v 8)) (CE.bo (ce_op op_mulD (CE.bo ce_i) (CE.bo (ce_v 6))))) ca_nil))))) ca_nil)))))))))
    css_nil)
    (css_cons (cs_set nd (ce_f A__law_digits hr (ca_cons (ce_v 0) (ca_cons (ce_ix (CE.bo (ce_lst (ca_cons ce_s (ca_cons ce_s (ca_cons ce_s ca_nil))))) (ce_f A__law_draw hr (ca_cons (ce_v 0) (ca_cons ce_i ca_nil)))) (ca_cons ce_i ca_nil)))))
    (css_cons (cs_asg (ce_f A__law_dotted hr (ca_cons (ce_v 0) (ca_cons (ce_v 4) ca_nil))) (cg_u rfl (cgs_cons (cg_n 5 nd) (cgs_cons (cg_n 6 nd) cgs_nil))))
    (css_cons (cs_if (ct_cmp (op_eqDD hr.units) (CE.bo (ce_v 1)) (CE.bo ce_i))
    (css_one (cs_ret (CE.bo (ce_lst (ca_cons (ce_op op_addD (CE.bo (ce_v 2)) (CE.bo (ce_v 5))) (ca_cons (ce_tup (ca_cons (ce_v 3) (ca_cons ce_i (ca_cons (ce_f A__law_read hr (ca_cons (ce_v 4) (ca_cons ce_i ca_nil))) (ca_cons (ce_op op_subD (CE.bo ce_i) (CE.bo (ce_v 6))) ca_nil))))) ca_nil))))))
    css_nil)
    (css_cons (cs_asg (ce_f A__law_power hr (ca_cons (ce_v 0) (ca_cons ce_i ca_nil))) (cg_u rfl (cgs_cons (cg_n 7 nd) (cgs_cons (cg_n 8 nd) cgs_nil))))
    (css_one (cs_ret (CE.bo (ce_lst (ca_cons (ce_op op_addD (CE.bo (ce_op op_addD (CE.bo (ce_op op_addD (CE.bo (ce_v 2)) (CE.bo (ce_v 5)))) (CE.bo ce_s))) (CE.bo (ce_v 7))) (ca_cons (ce_tup (ca_cons (ce_v 3) (ca_cons ce_i (ca_cons (ce_f A__law_read hr (ca_cons (ce_v 4) (ca_cons ce_i ca_nil))) (ca_cons (ce_op op_subD (CE.bo (ce_v 8)) (CE.bo (ce_v 6))) ca_nil))))) ca_nil)))))))))))))))
    (fun ds hc Q E h => len__law_text h) (fun ds hc Q E h => pure__law_text h) (fun _ _ _ _ _ _ us hl => match us, hl with | [_], _ => rfl)

abbrev N_scan_word : List Str := ["text", "at", "word", "index", "sign"]
def c_scan_word : CSx :=
  (cSeq (cFor (cEnumS (cV 2)) (gUn 2 (gCons' (gN 3) (gCons' (gN 4) gNil')))
    (cIfS (cT (cOp neD (cSl (cV 0) (cSoP (cOp addD (cV 1) (cV 3))) (cSoP (cOp addD (cOp addD (cV 1) (cV 3)) (cC (.int 1))))) (cV 4)))
    cDead
    cNext))
    (cIfS (cT (cOp gtD (cFn lenD (cCons (cV 0) cNil)) (cOp addD (cV 1) (cFn lenD (cCons (cV 2) cNil)))))
    cDead
    cNext))

def sp_scan_word : Spc := fun ds hc Q _ => ∃ pre wd, ds = [.str (txt (pre ++ wd)), .int (pre.length : Int), .str (txt wd)] ∧ (pre ++ wd).length ≤ 100000 ∧ Q .non hc
theorem len_scan_word {ds : List D} {hc : CH} {Q E} (h : sp_scan_word ds hc Q E) : ds.length = 3 := by
  obtain ⟨pre, wd, rfl, _⟩ := h
  rfl
theorem pure_scan_word {ds : List D} {hc : CH} {Q : D → CH → Prop} {E} (h : sp_scan_word ds hc Q E) : c_scan_word { nx := fun _ hc' => Q .non hc', rt := Q } (startC N_scan_word ds) hc := by
  obtain ⟨pre, wd, rfl, hl, k⟩ := h
  unfold c_scan_word N_scan_word
  have sz := sizeLine_eq
  refine seq_step fun M hM => ?_
  refine for_step fun R hR => ?_
  walk_at "n"
  refine hR _ _ (fun i sc h => h = hc ∧ ∃ o3 o4, sc = [.val (.str (txt (pre ++ wd))), .val (.int (pre.length : Int)), .val (.str (txt wd)), o3, o4]) ⟨rfl, _, _, rfl⟩ (fun j d sc h Nx e I nx => ?_) (fun sc h I => ?_)
  · obtain ⟨rfl, o3, o4, rfl⟩ := I
    obtain ⟨y, ey, rfl⟩ := enu_at e
    obtain ⟨c, ec, rfl⟩ := signs_at ey
    have ec' : wd[j]? = some c := by
      rw [← Array.getElem?_toList] at ec
      exact ec
    have ea : (pre ++ wd)[pre.length + j]? = some c := by
      rw [List.getElem?_append_right (by omega), show pre.length + j - pre.length = j by omega]
      exact ec'
    walk_at "n"
    refine sl_one ea (by omega) (by omega) hl ?_
    walk_at "n"
    rw [decide_eq_true (show txt [c] = (⟨#[c]⟩ : Str) from rfl)]
    walk_at "n"
    exact nx _ _ ⟨rfl, _, _, rfl⟩
  · obtain ⟨rfl, o3, o4, rfl⟩ := I
    refine hM _ _ ?_
    have L := hl
    rw [List.length_append] at L
    walk_at "n"
    rw [txt_len, txt_len, List.length_append]
    refine ⟨by omega, by omega, ?_⟩
    rw [decide_eq_false (by omega)]
    walk_at "n"
    exact k


theorem at_scan_word (T : Txt K mg)  : FnAt P w K mg base 1 "scan_word" ["text", "at", "word"] sp_scan_word :=
  fn_at (c := c_scan_word) T.d_scan_word sc_scan_word (fun f cdv A outer s H E hr => by
    have nd := sc_scan_word.nd
    exact (css_cons (cs_for PassesOwn.never rfl (ci_enumS T.n_enumerate (ce_v 2)) (cg_u rfl (cgs_cons (cg_n 3 nd) (cgs_cons (cg_n 4 nd) cgs_nil)))
    (css_one (cs_if (ct_cmp (op_neDD hr.units) (CE.bo (ce_sl (CE.bo (ce_v 0)) (co_some (ce_op op_addD (CE.bo (ce_v 1)) (CE.bo (ce_v 3)))) (co_some (ce_op op_addD (CE.bo (ce_op op_addD (CE.bo (ce_v 1)) (CE.bo (ce_v 3)))) (CE.bo ce_i))))) (CE.bo (ce_v 4)))
    (css_one cs_dead)
    css_nil)))
    (css_one (cs_if (ct_cmp op_gtD (CE.bo (ce_bf bf_len T.n_len (cba_cons (CE.bo (ce_v 0)) cba_nil))) (CE.bo (ce_op op_addD (CE.bo (ce_v 1)) (CE.bo (ce_bf bf_len T.n_len (cba_cons (CE.bo (ce_v 2)) cba_nil))))))
    (css_one cs_dead)
    css_nil))))
    (fun ds hc Q E h => len_scan_word h) (fun ds hc Q E h => pure_scan_word h) (fun _ _ _ _ _ _ us hl => match us, hl with | [_, _, _], _ => rfl)

abbrev N_scan_digits : List Str := ["text", "at", "signs", "most", "digits", "front"]
def c_scan_digits : CSx :=
  (cSeq (cAsg (cTup (cCons (cC (.str "")) (cCons (cC .non) cNil))) (gUn 2 (gCons' (gN 4) (gCons' (gN 5) gNil'))))
    (cSeq (cWhile (cT (cOp ltD (cV 1) (cFn lenD (cCons (cV 0) cNil))))
    (cSeq (cIfS (cAnd (cT (cOp eqD (cOp ixD (cV 0) (cV 1)) (cC (.str ".")))) (cT (cOp isND (cV 5) (cC .non))))
    (cAsg (cFn lenD (cCons (cV 4) cNil)) (gN 5))
    (cIfS (cAnd (cT (cOp inXD (cOp ixD (cV 0) (cV 1)) (cV 2))) (cT (cOp ltD (cFn lenD (cCons (cV 4) cNil)) (cV 3))))
    (cAsg (cOp addD (cV 4) (cOp ixD (cV 0) (cV 1))) (gN 4))
    cBrk))
    (cAsg (cOp addD (cV 1) (cC (.int 1))) (gN 1))))
    (cSeq (cIfS (cT (cOp eqD (cV 4) (cC (.str ""))))
    cDead
    cNext)
    (cRet (cTup (cCons (cV 4) (cCons (cIf (cT (cOp isND (cV 5) (cC .non))) (cC (.int 0)) (cOp subD (cFn lenD (cCons (cV 4) cNil)) (cV 5))) (cCons (cV 1) cNil))))))))

def sp_scan_digits : Spc := fun ds hc Q _ => ∃ pre sh post sg most dg b, ds = [.str (txt (pre ++ (sh ++ post))), .int (pre.length : Int), .str (txt sg), .int ((most : Nat) : Int)] ∧ ShT sg most sh dg b ∧ 46 ∉ sg ∧ (∀ c t, post = c :: t → c ∉ sg ∧ c ≠ 46) ∧ (pre ++ (sh ++ post)).length ≤ 100000 ∧ Q (.tup [.str (txt dg), .int (b : Int), .int ((pre.length : Int) + sh.length)]) hc
theorem len_scan_digits {ds : List D} {hc : CH} {Q E} (h : sp_scan_digits ds hc Q E) : ds.length = 4 := by
  obtain ⟨pre, sh, post, sg, most, dg, b, rfl, _⟩ := h
  rfl
theorem pure_scan_digits {ds : List D} {hc : CH} {Q : D → CH → Prop} {E} (h : sp_scan_digits ds hc Q E) : c_scan_digits { nx := fun _ hc' => Q .non hc', rt := Q } (startC N_scan_digits ds) hc := by
  obtain ⟨pre, sh, post, sg, most, dg, b, rfl, s, hs, hp, hl, k⟩ := h
  unfold c_scan_digits N_scan_digits
  obtain ⟨s1, s2, s3⟩ := s.no hs
  have sb := s.behind hs
  refine seq_step fun M hM => ?_
  walk_at "n"
  refine ⟨by decide, hM _ _ ?_⟩
  refine seq_step fun M hM => ?_
  have L := hl
  rw [List.length_append, List.length_append] at L
  have sz := sizeLine_eq
  have dl : dg.length ≤ sh.length := s1 ▸ List.length_filter_le ..
  have out : M [.val (.str (txt (pre ++ (sh ++ post)))), .val (.int ((pre.length : Int) + sh.length)), .val (.str (txt sg)), .val (.int ((most : Nat) : Int)), .val (.str (txt (noDot sh))), .val (frontD sh)] hc := by
    refine hM _ _ ?_
    refine seq_step fun M hM => ?_
    rw [s1]
    walk_at "n"
    rw [decide_eq_false (show ¬ txt dg = Str.ofString "" from fun z => s.ne (txt_inj.mp (z.trans (show Str.ofString "" = txt [] by decide +kernel))))]
    walk_at "n"
    refine hM _ _ ?_
    rcases sb with ⟨e1, e2⟩ | ⟨f, e1, e2⟩
    · rw [e1]
      subst e2
      walk_at "n"
      exact ⟨by decide, k⟩
    · rw [e1]
      walk_at "n"
      rw [txt_len, e2]
      exact ⟨by omega, by decide, k⟩
  refine wh_inv (fun m sc h => h = hc ∧ ∃ done todo, sh = done ++ todo ∧ m = todo.length ∧ sc = [.val (.str (txt (pre ++ (sh ++ post)))), .val (.int ((pre.length : Int) + done.length)), .val (.str (txt sg)), .val (.int ((most : Nat) : Int)), .val (.str (txt (noDot done))), .val (frontD done)]) (fun m sc h Nx I nx => ?_) (m := sh.length) ⟨rfl, [], sh, rfl, rfl, ?_⟩
  · obtain ⟨rfl, done, todo, es, em, rfl⟩ := I
    have L2 : sh.length = done.length + todo.length := by rw [es, List.length_append]
    walk_at "n"
    refine ⟨by rw [txt_len]; omega, ?_⟩
    rw [txt_len]
    cases todo with
    | nil =>
      rw [List.append_nil] at es
      subst es
      cases post with
      | nil =>
        rw [decide_eq_false (by simp only [List.length_append, List.length_nil]; omega)]
        walk_at "n"
        rw [List.append_nil] at out
        exact out
      | cons c t =>
        obtain ⟨p1, p2⟩ := hp c t rfl
        rw [decide_eq_true (by simp only [List.length_append, List.length_cons]; omega)]
        walk_at "n"
        have ea : (pre ++ (sh ++ c :: t))[pre.length + sh.length]? = some c := by
          rw [← List.append_assoc, ← List.length_append]
          exact at_app
        refine seq_step fun M2 hM2 => ?_
        walk_at "n"
        refine ix_txt ea (by omega) hl ?_
        walk_at "n"
        rw [decide_eq_false (fun z => p2 ((chr_eq txt_dot).mp z))]
        walk_at "n"
        refine ix_txt ea (by omega) hl ?_
        walk_at "n"
        refine ⟨c, rfl, ?_⟩
        rw [decide_eq_false (show ¬ c ∈ (txt sg).cps.toList from p1)]
        walk_at "n"
        exact out
    | cons c t =>
      have L3 : sh.length = done.length + t.length + 1 := L2
      rw [decide_eq_true (by simp only [List.length_append]; omega)]
      have ea : (pre ++ (sh ++ post))[pre.length + done.length]? = some c := by
        rw [es, List.append_assoc, ← List.append_assoc, ← List.length_append]
        exact at_app
      have cm : c ∈ sh := es ▸ List.mem_append_right _ (List.mem_cons_self ..)
      walk_at "n"
      have nl : (noDot done).length ≤ done.length := List.length_filter_le ..
      have nx2 : ∀ sc, sc = [Sl.val (.str (txt (pre ++ (sh ++ post)))), .val (.int ((pre.length : Int) + done.length + 1)), .val (.str (txt sg)), .val (.int ((most : Nat) : Int)), .val (.str (txt (noDot (done ++ [c])))), .val (frontD (done ++ [c]))] → Nx sc h := fun sc e => by
        subst e
        refine nx t.length _ _ (by rw [em]; exact Nat.lt_succ_self _) ⟨rfl, done ++ [c], t, by rw [es, List.append_assoc]; rfl, rfl, ?_⟩
        rw [List.length_append, List.length_singleton]
        show [Sl.val _, Sl.val (D.int _), _, _, _, _] = [Sl.val _, Sl.val (D.int _), _, _, _, _]
        rw [show (pre.length : Int) + done.length + 1 = (pre.length : Int) + ((done.length + 1 : Nat) : Int) by omega]
      refine seq_step fun M2 hM2 => ?_
      walk_at "n"
      refine ix_txt ea (by omega) hl ?_
      walk_at "n"
      by_cases z : c = 46
      · subst z
        have nd : 46 ∉ done := fun m => by
          rw [es, List.count_append, List.count_cons_self] at s2
          have := List.count_pos_iff.mpr m
          omega
        rw [decide_eq_true ((chr_eq txt_dot).mpr rfl), frontD_no nd]
        walk_at "n"
        refine ⟨by rw [txt_len]; omega, hM2 _ _ ?_⟩
        walk_at "n"
        refine nx2 _ ?_
        rw [frontD_dot nd, txt_len, noDot_app, show noDot [46] = [] from rfl, List.append_nil]
      · rw [decide_eq_false (fun w => z ((chr_eq txt_dot).mp w))]
        walk_at "n"
        refine ix_txt ea (by omega) hl ?_
        walk_at "n"
        refine ⟨c, rfl, ?_⟩
        rw [decide_eq_true (show c ∈ (txt sg).cps.toList from s3 c cm z)]
        walk_at "n"
        have ln : (noDot done).length < most := by
          have : noDot sh = noDot done ++ ([c] ++ noDot t) := by
            rw [es, show c :: t = [c] ++ t from rfl, noDot_app, noDot_app, noDot_one z]
          rw [s1] at this
          have l2 := s.len
          rw [this, List.length_append, List.length_append, List.length_singleton] at l2
          omega
        rw [txt_len, decide_eq_true (by omega)]
        walk_at "n"
        refine ⟨by omega, ix_txt ea (by omega) hl ?_⟩
        walk_at "n"
        rw [txt_len, txt_len]
        refine ⟨by show _ + 1 ≤ _; omega, hM2 _ _ ?_⟩
        walk_at "n"
        refine nx2 _ ?_
        rw [frontD_step z, txt_app, noDot_app, noDot_one z]
  · show _ = [Sl.val _, Sl.val (D.int ((pre.length : Int) + (0 : Nat))), _, _, Sl.val (D.str (txt [])), Sl.val .non]
    rw [show (pre.length : Int) + (0 : Nat) = pre.length by omega]
    rfl


theorem at_scan_digits (T : Txt K mg)  : FnAt P w K mg base 1 "scan_digits" ["text", "at", "signs", "most"] sp_scan_digits :=
  fn_at (c := c_scan_digits) T.d_scan_digits sc_scan_digits (fun f cdv A outer s H E hr => by
    have nd := sc_scan_digits.nd
    exact (css_cons (cs_asg (ce_tup (ca_cons ce_s (ca_cons ce_n ca_nil))) (cg_u rfl (cgs_cons (cg_n 4 nd) (cgs_cons (cg_n 5 nd) cgs_nil))))
    (css_cons (cs_while PassesOwn.never (ct_cmp op_ltD (CE.bo (ce_v 1)) (CE.bo (ce_bf bf_len T.n_len (cba_cons (CE.bo (ce_v 0)) cba_nil))))
    (css_cons (cs_if (CW.t (cw_and (ct_cmp (op_eqDD hr.units) (CE.bo (ce_ix (CE.bo (ce_v 0)) (ce_v 1))) (CE.bo ce_s)) (cw_and1 (ct_cmp op_isND (CE.bo (ce_v 5)) (CE.bo ce_n)))))
    (css_one (cs_set nd (ce_bf bf_len T.n_len (cba_cons (CE.bo (ce_v 4)) cba_nil))))
    (css_one (cs_if (CW.t (cw_and (ct_cmp (op_inXD hr) (CE.bo (ce_ix (CE.bo (ce_v 0)) (ce_v 1))) (CE.bo (ce_v 2))) (cw_and1 (ct_cmp op_ltD (CE.bo (ce_bf bf_len T.n_len (cba_cons (CE.bo (ce_v 4)) cba_nil))) (CE.bo (ce_v 3))))))
    (css_one (cs_set nd (ce_op op_addD (CE.bo (ce_v 4)) (CE.bo (ce_ix (CE.bo (ce_v 0)) (ce_v 1))))))
    (css_one cs_break))))
    (css_one (cs_set nd (ce_op op_addD (CE.bo (ce_v 1)) (CE.bo ce_i))))))
    (css_cons (cs_if (ct_cmp (op_eqDD hr.units) (CE.bo (ce_v 4)) (CE.bo ce_s))
    (css_one cs_dead)
    css_nil)
    (css_one (cs_ret (CE.bo (ce_tup (ca_cons (ce_v 4) (ca_cons (ce_if (ct_cmp op_isND (CE.bo (ce_v 5)) (CE.bo ce_n)) ce_i (ce_op op_subD (CE.bo (ce_bf bf_len T.n_len (cba_cons (CE.bo (ce_v 4)) cba_nil))) (CE.bo (ce_v 5)))) (ca_cons (ce_v 1) ca_nil)))))))))))
    (fun ds hc Q E h => len_scan_digits h) (fun ds hc Q E h => pure_scan_digits h) (fun _ _ _ _ _ _ us hl => match us, hl with | [_, _, _, _], _ => rfl)

abbrev N_scan_power : List Str := ["text", "at", "most", "is_minus", "found", "begin"]
def c_scan_power : CSx :=
  (cSeq (cAsg (cOp eqD (cSl (cV 0) (cSoP (cV 1)) (cSoP (cOp addD (cV 1) (cC (.int 1))))) (cC (.str "-"))) (gN 3))
    (cSeq (cAsg (cOp addD (cV 1) (cFn intTD (cCons (cOp inD (cSl (cV 0) (cSoP (cV 1)) (cSoP (cOp addD (cV 1) (cC (.int 1))))) (cTup (cCons (cC (.str "-")) (cCons (cC (.str "+")) cNil)))) cNil))) (gN 1))
    (cSeq (cPar 4 5 (cCons (cC (.int 0)) (cCons (cV 1) cNil)))
    (cSeq (cWhile (cAnd (cT (cOp ltD (cV 1) (cFn lenD (cCons (cV 0) cNil)))) (cAnd (cT (cOp inXD (cOp ixD (cV 0) (cV 1)) (cC (.str "0123456789")))) (cT (cOp leD (cOp addD (cOp mulD (cV 4) (cC (.int 10))) (cFn intTD (cCons (cOp ixD (cV 0) (cV 1)) cNil))) (cV 2)))))
    (cSeq (cAsg (cOp addD (cOp mulD (cV 4) (cC (.int 10))) (cFn intTD (cCons (cOp ixD (cV 0) (cV 1)) cNil))) (gN 4))
    (cAsg (cOp addD (cV 1) (cC (.int 1))) (gN 1))))
    (cSeq (cIfS (cOr (cT (cOp eqD (cV 1) (cV 5))) (cT (cOp ltD (cV 1) (cFn lenD (cCons (cV 0) cNil)))))
    cDead
    cNext)
    (cRet (cIf (cT (cV 3)) (cOp subD (cC (.int 0)) (cV 4)) (cV 4))))))))

def sp_scan_power : Spc := fun ds hc Q _ => ∃ pre pw most k, ds = [.str (txt (pre ++ pw)), .int (pre.length : Int), .int ((most : Nat) : Int)] ∧ PwT most pw k ∧ (pre ++ pw).length ≤ 100000 ∧ Q (.int k) hc
theorem len_scan_power {ds : List D} {hc : CH} {Q E} (h : sp_scan_power ds hc Q E) : ds.length = 3 := by
  obtain ⟨pre, pw, most, k, rfl, _⟩ := h
  rfl
theorem pure_scan_power {ds : List D} {hc : CH} {Q : D → CH → Prop} {E} (h : sp_scan_power ds hc Q E) : c_scan_power { nx := fun _ hc' => Q .non hc', rt := Q } (startC N_scan_power ds) hc := by
  obtain ⟨pre, pw, most, k, rfl, ⟨⟨sg, d, rfl, hsg, hd, hn, hv, hk⟩⟩, hl, q⟩ := h
  unfold c_scan_power N_scan_power
  have sz := sizeLine_eq
  have L := hl
  rw [List.length_append, List.length_append] at L
  obtain ⟨c0, d', rfl⟩ : ∃ c0 d', d = c0 :: d' := by
    cases d with
    | nil => exact absurd rfl hn
    | cons c t => exact ⟨c, t, rfl⟩
  have hc0 := hd c0 (List.mem_cons_self ..)
  refine seq_step fun M hM => ?_
  walk_at "n"
  refine sl_txt (k := 1) rfl rfl hl ?_
  have e1 : ((sg ++ c0 :: d').take 1 = [45]) ↔ sg = [45] := by
    rcases hsg with rfl | rfl | rfl
    · refine ⟨fun z => ?_, fun z => by cases z⟩
      have z : [c0] = [45] := z
      injection z with z
      omega
    · exact ⟨fun z => absurd (show [43] = [45] from z) (by decide), fun z => absurd z (by decide)⟩
    · exact ⟨fun _ => rfl, fun _ => rfl⟩
  have e2 : ((sg ++ c0 :: d').take 1 = [43]) ↔ sg = [43] := by
    rcases hsg with rfl | rfl | rfl
    · refine ⟨fun z => ?_, fun z => by cases z⟩
      have z : [c0] = [43] := z
      injection z with z
      omega
    · exact ⟨fun _ => rfl, fun _ => rfl⟩
    · exact ⟨fun z => absurd (show [45] = [43] from z) (by decide), fun z => absurd z (by decide)⟩
  have le : ∀ c ∈ (sg ++ c0 :: d').take 1, c < 128 := fun c m => by
    rcases hsg with rfl | rfl | rfl
    · have m : c ∈ [c0] := m
      rw [List.mem_singleton] at m
      omega
    · have m : c ∈ [43] := m
      rw [List.mem_singleton] at m
      omega
    · have m : c ∈ [45] := m
      rw [List.mem_singleton] at m
      omega
  walk_at "n"
  rw [txt_minus]
  rw [show decide (txt ((sg ++ c0 :: d').take 1) = txt [45]) = decide (sg = [45]) from decide_eq_decide.mpr (txt_inj.trans e1)]
  refine hM _ _ ?_
  refine seq_step fun M hM => ?_
  walk_at "n"
  refine sl_txt (k := 1) rfl rfl hl ?_
  walk_at "n"
  refine ⟨by decide, in_pm le ?_⟩
  rw [show decide ((sg ++ c0 :: d').take 1 = [45] ∨ (sg ++ c0 :: d').take 1 = [43]) = decide (sg ≠ []) from decide_eq_decide.mpr (by
    rw [e1, e2]
    rcases hsg with rfl | rfl | rfl <;> simp)]
  walk_at "n"
  have e3 : (pre.length : Int) + (if decide (sg ≠ []) = true then 1 else 0) = ((pre ++ sg).length : Int) := by
    rw [List.length_append]
    rcases hsg with rfl | rfl | rfl <;> simp
  rw [e3]
  clear e3 e1 e2 le
  refine hM _ _ ?_
  rw [← List.append_assoc] at hl ⊢
  clear L
  generalize hpb : pre ++ sg = pb at hl ⊢
  generalize hdd : c0 :: d' = d at *
  clear hsg hpb
  have L := hl
  rw [List.length_append] at L
  refine seq_step fun M hM => ?_
  walk_at "n"
  refine hM _ _ ?_
  refine seq_step fun M hM => ?_
  have out : M [.val (.str (txt (pb ++ d))), .val (.int ((pb.length : Int) + d.length)), .val (.int ((most : Nat) : Int)), .val (.bl (decide (sg = [45]))), .val (.int ((PySem.NumText.digitsVal d : Nat) : Int)), .val (.int (pb.length : Int))] hc := by
    refine hM _ _ ?_
    refine seq_step fun M hM => ?_
    have d0 : 0 < d.length := List.length_pos_iff.mpr hn
    walk_at "n"
    rw [decide_eq_false (show ¬ (pb.length : Int) + d.length = pb.length by omega)]
    walk_at "n"
    rw [txt_len, List.length_append]
    refine ⟨by omega, ?_⟩
    rw [decide_eq_false (show ¬ (pb.length : Int) + d.length < ((pb.length + d.length : Nat) : Int) by omega)]
    walk_at "n"
    refine hM _ _ ?_
    walk_at "n"
    by_cases z : sg = [45]
    · rw [if_pos z] at hk
      rw [if_pos (decide_eq_true z), ← hk]
      exact q
    · rw [if_neg z] at hk
      rw [if_neg (by rw [decide_eq_false z]; exact Bool.false_ne_true), ← hk]
      exact q
  refine wh_inv (fun m sc h => h = hc ∧ ∃ done todo, d = done ++ todo ∧ m = todo.length ∧ sc = [.val (.str (txt (pb ++ d))), .val (.int ((pb.length : Int) + done.length)), .val (.int ((most : Nat) : Int)), .val (.bl (decide (sg = [45]))), .val (.int ((PySem.NumText.digitsVal done : Nat) : Int)), .val (.int (pb.length : Int))]) (fun m sc h Nx I nx => ?_) (m := d.length) ⟨rfl, [], d, rfl, rfl, ?_⟩
  · obtain ⟨rfl, done, todo, es, em, rfl⟩ := I
    have L2 : d.length = done.length + todo.length := by rw [es, List.length_append]
    walk_at "n"
    rw [txt_len]
    refine ⟨by omega, ?_⟩
    cases todo with
    | nil =>
      rw [List.append_nil] at es
      subst es
      rw [decide_eq_false (by rw [List.length_append]; omega)]
      walk_at "n"
      exact out
    | cons c t =>
      have L3 : d.length = done.length + t.length + 1 := L2
      rw [decide_eq_true (by rw [List.length_append]; omega)]
      have ea : (pb ++ d)[pb.length + done.length]? = some c := by
        rw [es, ← List.append_assoc, ← List.length_append]
        exact at_app
      have cm : c ∈ d := es ▸ List.mem_append_right _ (List.mem_cons_self ..)
      have hcd := hd c cm
      have one : PySem.NumText.digitsVal [c] = c - 48 := by
        show 0 * 10 + (c - 48) = _
        omega
      have vm : PySem.NumText.digitsVal (done ++ [c]) ≤ most := by
        have := val_mono t (done ++ [c])
        rw [List.append_assoc, show [c] ++ t = c :: t from rfl, ← es] at this
        omega
      rw [PySem.NumText.digitsVal_snoc] at vm
      have ad : PySem.NumText.AllDigits [c] := fun x hx => by rw [List.mem_singleton] at hx; subst hx; exact hcd
      walk_at "n"
      refine ix_txt ea (by omega) hl ?_
      walk_at "n"
      refine ⟨c, rfl, ?_⟩
      rw [decide_eq_true (digit_in hcd)]
      walk_at "n"
      refine ⟨mulOk_r (by decide), ix_txt ea (by omega) hl ?_⟩
      walk_at "n"
      rw [txt_list]
      refine ⟨⟨ad, List.cons_ne_nil _ _, by rw [txt_len]; show 1 ≤ 4300; decide⟩, ?_⟩
      rw [one]
      walk_at "n"
      rw [decide_eq_true (show ((PySem.NumText.digitsVal done : Nat) : Int) * 10 + ((c - 48 : Nat) : Int) ≤ most by omega)]
      walk_at "n"
      refine seq_step fun M2 hM2 => ?_
      walk_at "n"
      refine ⟨mulOk_r (by decide), ix_txt ea (by omega) hl ?_⟩
      walk_at "n"
      rw [txt_list]
      refine ⟨⟨ad, List.cons_ne_nil _ _, by rw [txt_len]; show 1 ≤ 4300; decide⟩, ?_⟩
      rw [one]
      walk_at "n"
      refine hM2 _ _ ?_
      walk_at "n"
      refine nx t.length _ _ (by rw [em]; exact Nat.lt_succ_self _) ⟨rfl, done ++ [c], t, by rw [es, List.append_assoc]; rfl, rfl, ?_⟩
      rw [List.length_append, List.length_singleton, PySem.NumText.digitsVal_snoc]
      show [Sl.val _, Sl.val (D.int _), _, _, Sl.val (D.int _), _] = [Sl.val _, Sl.val (D.int _), _, _, Sl.val (D.int _), _]
      rw [show (pb.length : Int) + done.length + 1 = (pb.length : Int) + ((done.length + 1 : Nat) : Int) by omega, show ((PySem.NumText.digitsVal done : Nat) : Int) * 10 + ((c - 48 : Nat) : Int) = ((PySem.NumText.digitsVal done * 10 + (c - 48) : Nat) : Int) by omega]
  · rw [show PySem.NumText.digitsVal [] = 0 from rfl]
    simp


theorem at_scan_power (T : Txt K mg)  : FnAt P w K mg base 1 "scan_power" ["text", "at", "most"] sp_scan_power :=
  fn_at (c := c_scan_power) T.d_scan_power sc_scan_power (fun f cdv A outer s H E hr => by
    have nd := sc_scan_power.nd
    exact (css_cons (cs_set nd (ce_cmp (op_eqDD hr.units) (CE.bo (ce_sl (CE.bo (ce_v 0)) (co_some (ce_v 1)) (co_some (ce_op op_addD (CE.bo (ce_v 1)) (CE.bo ce_i))))) (CE.bo ce_s)))
    (css_cons (cs_set nd (ce_op op_addD (CE.bo (ce_v 1)) (CE.bo (ce_bt (bt_intT T.lim) T.n_int (cba_cons (CE.bo (ce_cmp (op_inDD hr) (CE.bo (ce_sl (CE.bo (ce_v 0)) (co_some (ce_v 1)) (co_some (ce_op op_addD (CE.bo (ce_v 1)) (CE.bo ce_i))))) (CE.bo (ce_tup (ca_cons ce_s (ca_cons ce_s ca_nil)))))) cba_nil)))))
    (css_cons (cs_par rfl nd (ca_cons ce_i (ca_cons (ce_v 1) ca_nil)))
    (css_cons (cs_while PassesOwn.never (CW.t (cw_and (ct_cmp op_ltD (CE.bo (ce_v 1)) (CE.bo (ce_bf bf_len T.n_len (cba_cons (CE.bo (ce_v 0)) cba_nil)))) (cw_and (ct_cmp (op_inXD hr) (CE.bo (ce_ix (CE.bo (ce_v 0)) (ce_v 1))) (CE.bo (ce_gc (T.k_DIGITS)))) (cw_and1 (ct_cmp op_leD (CE.bo (ce_op op_addD (CE.bo (ce_op op_mulD (CE.bo (ce_v 4)) (CE.bo ce_i))) (CE.bo (ce_bt (bt_intT T.lim) T.n_int (cba_cons (CE.bo (ce_ix (CE.bo (ce_v 0)) (ce_v 1))) cba_nil))))) (CE.bo (ce_v 2)))))))
    (css_cons (cs_set nd (ce_op op_addD (CE.bo (ce_op op_mulD (CE.bo (ce_v 4)) (CE.bo ce_i))) (CE.bo (ce_bt (bt_intT T.lim) T.n_int (cba_cons (CE.bo (ce_ix (CE.bo (ce_v 0)) (ce_v 1))) cba_nil)))))
    (css_one (cs_set nd (ce_op op_addD (CE.bo (ce_v 1)) (CE.bo ce_i))))))
    (css_cons (cs_if (CW.t (cw_or (ct_cmp (op_eqDD hr.units) (CE.bo (ce_v 1)) (CE.bo (ce_v 5))) (cw_or1 (ct_cmp op_ltD (CE.bo (ce_v 1)) (CE.bo (ce_bf bf_len T.n_len (cba_cons (CE.bo (ce_v 0)) cba_nil)))))))
    (css_one cs_dead)
    css_nil)
    (css_one (cs_ret (CE.bo (ce_if (ct_e (ce_v 3)) (ce_op op_subD (CE.bo ce_i) (CE.bo (ce_v 4))) (ce_v 4)))))))))))
    (fun ds hc Q E h => len_scan_power h) (fun ds hc Q E h => pure_scan_power h) (fun _ _ _ _ _ _ us hl => match us, hl with | [_, _, _], _ => rfl)

abbrev N_scan_hex : List Str := ["text", "at", "digits", "behind"]
def c_scan_hex : CSx :=
  (cSeq (cAsg (cCall sp_scan_digits (cCons (cV 0) (cCons (cV 1) (cCons (cC (.str "0123456789abcdef")) (cCons (cC (.int 300)) cNil))))) (gUn 3 (gCons' (gN 2) (gCons' (gN 3) (gCons' (gN 1) gNil')))))
    (cSeq (cIfS (cT (cOp neD (cSl (cV 0) (cSoP (cV 1)) (cSoP (cOp addD (cV 1) (cC (.int 1))))) (cC (.str "p"))))
    cDead
    cNext)
    (cRet (cTup (cCons (cC (.int 2)) (cCons (cFn intTD (cCons (cV 2) (cCons (cC (.int 16)) cNil))) (cCons (cOp subD (cCall sp_scan_power (cCons (cV 0) (cCons (cOp addD (cV 1) (cC (.int 1))) (cCons (cC (.int 1400)) cNil)))) (cOp mulD (cC (.int 4)) (cV 3))) cNil)))))))

def sp_scan_hex : Spc := fun ds hc Q _ => ∃ pre sh pw dg b k, ds = [.str (txt (pre ++ (sh ++ 112 :: pw))), .int (pre.length : Int)] ∧ ShT hexL 300 sh dg b ∧ PwT 1400 pw k ∧ (pre ++ (sh ++ 112 :: pw)).length ≤ 100000 ∧ Q (.tup [.int 2, .int ((Hx.hexNum dg : Nat) : Int), .int (k - 4 * (b : Int))]) hc
theorem len_scan_hex {ds : List D} {hc : CH} {Q E} (h : sp_scan_hex ds hc Q E) : ds.length = 2 := by
  obtain ⟨pre, sh, pw, dg, b, k, rfl, _⟩ := h
  rfl
theorem pure_scan_hex {ds : List D} {hc : CH} {Q : D → CH → Prop} {E} (h : sp_scan_hex ds hc Q E) : c_scan_hex { nx := fun _ hc' => Q .non hc', rt := Q } (startC N_scan_hex ds) hc := by
  obtain ⟨pre, sh, pw, dg, b, k, rfl, s, hp, hl, q⟩ := h
  unfold c_scan_hex N_scan_hex
  have sz := sizeLine_eq
  have L := hl
  rw [List.length_append, List.length_append] at L
  refine seq_step fun M hM => ?_
  walk_at "n"
  rw [show (D.str "0123456789abcdef") = .str (txt hexL) from congrArg D.str txt_hexs]
  refine ⟨pre, sh, 112 :: pw, hexL, 300, dg, b, rfl, s, by decide, fun c t e => ?_, hl, ?_⟩
  · cases e
    decide
  walk_at "n"
  refine hM _ _ ?_
  have ea : (pre ++ (sh ++ 112 :: pw))[pre.length + sh.length]? = some 112 := by
    rw [← List.append_assoc, ← List.length_append]
    exact at_app
  refine seq_step fun M hM => ?_
  walk_at "n"
  refine sl_one ea (by omega) (by omega) hl ?_
  walk_at "n"
  rw [decide_eq_true (show txt [112] = Str.ofString "p" by decide +kernel)]
  walk_at "n"
  refine hM _ _ ?_
  walk_at "n"
  rw [txt_list]
  refine ⟨⟨hexL_all s.mem, s.ne, by rw [txt_len]; have := s.len; omega⟩, pre ++ (sh ++ [112]), pw, 1400, k, ?_, hp, ?_, ?_⟩
  · have e2 : pre.length + (sh.length + 1) = (pre ++ (sh ++ [112])).length := by
      rw [List.length_append, List.length_append, List.length_singleton]
    rw [show pre ++ (sh ++ [112]) ++ pw = pre ++ (sh ++ 112 :: pw) by rw [List.append_assoc, List.append_assoc]; rfl, ← e2]
    rw [show (pre.length : Int) + sh.length + 1 = ((pre.length + (sh.length + 1) : Nat) : Int) by omega]
    rfl
  · rw [show pre ++ (sh ++ [112]) ++ pw = pre ++ (sh ++ 112 :: pw) by rw [List.append_assoc, List.append_assoc]; rfl]
    exact hl
  · walk_at "n"
    exact ⟨mulOk_l (by decide), by decide, q⟩


theorem at_scan_hex (T : Txt K mg) (A_scan_digits : FnAt P w K mg base 1 "scan_digits" ["text", "at", "signs", "most"] sp_scan_digits) (A_scan_power : FnAt P w K mg base 1 "scan_power" ["text", "at", "most"] sp_scan_power) : FnAt P w K mg base 2 "scan_hex" ["text", "at"] sp_scan_hex :=
  fn_at (c := c_scan_hex) T.d_scan_hex sc_scan_hex (fun f cdv A outer s H E hr => by
    have nd := sc_scan_hex.nd
    exact (css_cons (cs_asg (ce_f A_scan_digits hr (ca_cons (ce_v 0) (ca_cons (ce_v 1) (ca_cons (ce_gc (T.k_HEX_DIGITS)) (ca_cons (ce_gc (T.k_MOST_HEX)) ca_nil))))) (cg_u rfl (cgs_cons (cg_n 2 nd) (cgs_cons (cg_n 3 nd) (cgs_cons (cg_n 1 nd) cgs_nil)))))
    (css_cons (cs_if (ct_cmp (op_neDD hr.units) (CE.bo (ce_sl (CE.bo (ce_v 0)) (co_some (ce_v 1)) (co_some (ce_op op_addD (CE.bo (ce_v 1)) (CE.bo ce_i))))) (CE.bo ce_s))
    (css_one cs_dead)
    css_nil)
    (css_one (cs_ret (CE.bo (ce_tup (ca_cons ce_i (ca_cons (ce_bt (bt_intT T.lim) T.n_int (cba_cons (CE.bo (ce_v 2)) (cba_cons (CE.bo ce_i) cba_nil))) (ca_cons (ce_op op_subD (CE.bo (ce_f A_scan_power hr (ca_cons (ce_v 0) (ca_cons (ce_op op_addD (CE.bo (ce_v 1)) (CE.bo ce_i)) (ca_cons (ce_gc (T.k_MOST_HEX_POWER)) ca_nil))))) (CE.bo (ce_op op_mulD (CE.bo ce_i) (CE.bo (ce_v 3))))) ca_nil))))))))))
    (fun ds hc Q E h => len_scan_hex h) (fun ds hc Q E h => pure_scan_hex h) (fun _ _ _ _ _ _ us hl => match us, hl with | [_, _], _ => rfl)

abbrev N_scan_decimal : List Str := ["text", "at", "digits", "behind", "power"]
def c_scan_decimal : CSx :=
  (cSeq (cAsg (cCall sp_scan_digits (cCons (cV 0) (cCons (cV 1) (cCons (cC (.str "0123456789")) (cCons (cC (.int 1300)) cNil))))) (gUn 3 (gCons' (gN 2) (gCons' (gN 3) (gCons' (gN 1) gNil')))))
    (cSeq (cAsg (cC (.int 0)) (gN 4))
    (cSeq (cIfS (cT (cOp ltD (cV 1) (cFn lenD (cCons (cV 0) cNil))))
    (cSeq (cIfS (cT (cOp neD (cOp ixD (cV 0) (cV 1)) (cC (.str "e"))))
    cDead
    cNext)
    (cAsg (cCall sp_scan_power (cCons (cV 0) (cCons (cOp addD (cV 1) (cC (.int 1))) (cCons (cC (.int 1200)) cNil)))) (gN 4)))
    cNext)
    (cRet (cTup (cCons (cC (.int 10)) (cCons (cFn intTD (cCons (cV 2) cNil)) (cCons (cOp subD (cV 4) (cV 3)) cNil))))))))

def sp_scan_decimal : Spc := fun ds hc Q _ => ∃ pre sh tail dg b k, ds = [.str (txt (pre ++ (sh ++ tail))), .int (pre.length : Int)] ∧ ShT decL 1300 sh dg b ∧ TailT 1200 tail k ∧ (pre ++ (sh ++ tail)).length ≤ 100000 ∧ Q (.tup [.int 10, .int ((PySem.NumText.digitsVal dg : Nat) : Int), .int (k - (b : Int))]) hc
theorem len_scan_decimal {ds : List D} {hc : CH} {Q E} (h : sp_scan_decimal ds hc Q E) : ds.length = 2 := by
  obtain ⟨pre, sh, tail, dg, b, k, rfl, _⟩ := h
  rfl
theorem pure_scan_decimal {ds : List D} {hc : CH} {Q : D → CH → Prop} {E} (h : sp_scan_decimal ds hc Q E) : c_scan_decimal { nx := fun _ hc' => Q .non hc', rt := Q } (startC N_scan_decimal ds) hc := by
  obtain ⟨pre, sh, tail, dg, b, k, rfl, s, ht, hl, q⟩ := h
  unfold c_scan_decimal N_scan_decimal
  have sz := sizeLine_eq
  have L := hl
  rw [List.length_append, List.length_append] at L
  refine seq_step fun M hM => ?_
  walk_at "n"
  rw [show (D.str "0123456789") = .str (txt decL) from congrArg D.str txt_digits]
  refine ⟨pre, sh, tail, decL, 1300, dg, b, rfl, s, by decide, fun c t e => ?_, hl, ?_⟩
  · rcases ht with ⟨rfl, _⟩ | ⟨pw, rfl, _⟩
    · cases e
    · cases e
      decide
  walk_at "n"
  refine hM _ _ ?_
  refine seq_step fun M hM => ?_
  walk_at "n"
  refine hM _ _ ?_
  refine seq_step fun M hM => ?_
  have out : M [.val (.str (txt (pre ++ (sh ++ tail)))), .val (.int ((pre.length : Int) + sh.length)), .val (.str (txt dg)), .val (.int (b : Int)), .val (.int k)] hc := by
    refine hM _ _ ?_
    walk_at "n"
    rw [txt_list]
    exact ⟨⟨decL_all s.mem, s.ne, by rw [txt_len]; have := s.len; omega⟩, by decide, q⟩
  walk_at "n"
  rw [txt_len, List.length_append, List.length_append]
  refine ⟨by omega, ?_⟩
  rcases ht with ⟨rfl, rfl⟩ | ⟨pw, rfl, hp⟩
  · rw [decide_eq_false (show ¬ (pre.length : Int) + sh.length < ((pre.length + (sh.length + ([] : List Nat).length) : Nat) : Int) by rw [List.length_nil]; omega)]
    walk_at "n"
    rw [List.append_nil] at out
    exact out
  · rw [decide_eq_true (show (pre.length : Int) + sh.length < ((pre.length + (sh.length + (101 :: pw : List Nat).length) : Nat) : Int) by rw [List.length_cons]; omega)]
    have ea : (pre ++ (sh ++ 101 :: pw))[pre.length + sh.length]? = some 101 := by
      rw [← List.append_assoc, ← List.length_append]
      exact at_app
    walk_at "n"
    refine seq_step fun M2 hM2 => ?_
    walk_at "n"
    refine ix_txt ea (by omega) hl ?_
    walk_at "n"
    rw [decide_eq_true (show txt [101] = Str.ofString "e" by decide +kernel)]
    walk_at "n"
    refine hM2 _ _ ?_
    walk_at "n"
    refine ⟨pre ++ (sh ++ [101]), pw, 1200, k, ?_, hp, ?_, ?_⟩
    · have e2 : pre.length + (sh.length + 1) = (pre ++ (sh ++ [101])).length := by
        rw [List.length_append, List.length_append, List.length_singleton]
      rw [show pre ++ (sh ++ [101]) ++ pw = pre ++ (sh ++ 101 :: pw) by rw [List.append_assoc, List.append_assoc]; rfl, ← e2]
      rw [show (pre.length : Int) + sh.length + 1 = ((pre.length + (sh.length + 1) : Nat) : Int) by omega]
      rfl
    · rw [show pre ++ (sh ++ [101]) ++ pw = pre ++ (sh ++ 101 :: pw) by rw [List.append_assoc, List.append_assoc]; rfl]
      exact hl
    · walk_at "n"
      exact out


theorem at_scan_decimal (T : Txt K mg) (A_scan_digits : FnAt P w K mg base 1 "scan_digits" ["text", "at", "signs", "most"] sp_scan_digits) (A_scan_power : FnAt P w K mg base 1 "scan_power" ["text", "at", "most"] sp_scan_power) : FnAt P w K mg base 2 "scan_decimal" ["text", "at"] sp_scan_decimal :=
  fn_at (c := c_scan_decimal) T.d_scan_decimal sc_scan_decimal (fun f cdv A outer s H E hr => by
    have nd := sc_scan_decimal.nd
    exact (css_cons (cs_asg (ce_f A_scan_digits hr (ca_cons (ce_v 0) (ca_cons (ce_v 1) (ca_cons (ce_gc (T.k_DIGITS)) (ca_cons (ce_gc (T.k_MOST_DIGITS)) ca_nil))))) (cg_u rfl (cgs_cons (cg_n 2 nd) (cgs_cons (cg_n 3 nd) (cgs_cons (cg_n 1 nd) cgs_nil)))))
    (css_cons (cs_set nd ce_i)
    (css_cons (cs_if (ct_cmp op_ltD (CE.bo (ce_v 1)) (CE.bo (ce_bf bf_len T.n_len (cba_cons (CE.bo (ce_v 0)) cba_nil))))
    (css_cons (cs_if (ct_cmp (op_neDD hr.units) (CE.bo (ce_ix (CE.bo (ce_v 0)) (ce_v 1))) (CE.bo ce_s))
    (css_one cs_dead)
    css_nil)
    (css_one (cs_set nd (ce_f A_scan_power hr (ca_cons (ce_v 0) (ca_cons (ce_op op_addD (CE.bo (ce_v 1)) (CE.bo ce_i)) (ca_cons (ce_gc (T.k_MOST_POWER)) ca_nil)))))))
    css_nil)
    (css_one (cs_ret (CE.bo (ce_tup (ca_cons ce_i (ca_cons (ce_bt (bt_intT T.lim) T.n_int (cba_cons (CE.bo (ce_v 2)) cba_nil)) (ca_cons (ce_op op_subD (CE.bo (ce_v 4)) (CE.bo (ce_v 3))) ca_nil)))))))))))
    (fun ds hc Q E h => len_scan_decimal h) (fun ds hc Q E h => pure_scan_decimal h) (fun _ _ _ _ _ _ us hl => match us, hl with | [_, _], _ => rfl)

abbrev N_parse_text : List Str := ["value", "sign", "at"]
def c_parse_text : CSx :=
  (cSeq (cIfS (cNot (cT (cUn (isiD "str") (cV 0))))
    cDead
    cNext)
    (cSeq (cAsg (cFn intFD (cCons (cOp eqD (cSl (cV 0) cNoP (cSoP (cC (.int 1)))) (cC (.str "-"))) cNil)) (gN 1))
    (cSeq (cAsg (cFn intFD (cCons (cOp inD (cSl (cV 0) cNoP (cSoP (cC (.int 1)))) (cTup (cCons (cC (.str "-")) (cCons (cC (.str "+")) cNil)))) cNil)) (gN 2))
    (cSeq (cIfS (cT (cOp eqD (cSl (cV 0) (cSoP (cV 2)) (cSoP (cOp addD (cV 2) (cC (.int 1))))) (cC (.str "i"))))
    (cSeq (cDrop (cCall sp_scan_word (cCons (cV 0) (cCons (cV 2) (cCons (cC (.str "inf")) cNil)))))
    (cRet (cTup (cCons (cV 1) (cCons (cC (.str "inf")) cNil)))))
    cNext)
    (cSeq (cIfS (cT (cOp eqD (cSl (cV 0) (cSoP (cV 2)) (cSoP (cOp addD (cV 2) (cC (.int 2))))) (cC (.str "0x"))))
    (cRet (cTup (cCons (cV 1) (cStar (cCall sp_scan_hex (cCons (cV 0) (cCons (cOp addD (cV 2) (cC (.int 2))) cNil))) cNil))))
    cNext)
    (cRet (cTup (cCons (cV 1) (cStar (cCall sp_scan_decimal (cCons (cV 0) (cCons (cV 2) cNil))) cNil)))))))))

def sp_parse_text : Spc := fun ds hc Q _ => ∃ sg rest out, ds = [.str (txt (sg ++ rest))] ∧ (sg = [] ∨ sg = [43] ∨ sg = [45]) ∧ NumT rest out ∧ (sg ++ rest).length ≤ 100000 ∧ Q (.tup (.int (if sg = [45] then 1 else 0) :: out)) hc
theorem len_parse_text {ds : List D} {hc : CH} {Q E} (h : sp_parse_text ds hc Q E) : ds.length = 1 := by
  obtain ⟨sg, rest, out, rfl, _⟩ := h
  rfl
theorem numT_front {rest : List Nat} {out : List D} (h : NumT rest out) : ∃ c t, rest = c :: t ∧ c < 128 ∧ c ≠ 43 ∧ c ≠ 45 := by
  rcases h with ⟨rfl, _⟩ | ⟨sh, pw, dg, b, k, rfl, _⟩ | ⟨sh, tail, dg, b, k, rfl, s, _⟩
  · exact ⟨_, _, rfl, by decide, by decide, by decide⟩
  · exact ⟨_, _, rfl, by decide, by decide, by decide⟩
  · obtain ⟨c, t, rfl, hc, _⟩ := s.front
    refine ⟨c, t ++ tail, rfl, ?_⟩
    rcases hc with hc | rfl
    · have := decL_rng hc
      omega
    · decide
theorem pure_parse_text {ds : List D} {hc : CH} {Q : D → CH → Prop} {E} (h : sp_parse_text ds hc Q E) : c_parse_text { nx := fun _ hc' => Q .non hc', rt := Q } (startC N_parse_text ds) hc := by
  obtain ⟨sg, rest, out, rfl, hsg, hn, hl, q⟩ := h
  unfold c_parse_text N_parse_text
  have sz := sizeLine_eq
  obtain ⟨c0, t0, er, c1, c2, c3⟩ := numT_front hn
  have e1 : ((sg ++ rest).take 1 = [45]) ↔ sg = [45] := by
    subst er
    rcases hsg with rfl | rfl | rfl
    · refine ⟨fun z => ?_, fun z => by cases z⟩
      have z : [c0] = [45] := z
      injection z with z
      omega
    · exact ⟨fun z => absurd (show [43] = [45] from z) (by decide), fun z => absurd z (by decide)⟩
    · exact ⟨fun _ => rfl, fun _ => rfl⟩
  have e2 : ((sg ++ rest).take 1 = [43]) ↔ sg = [43] := by
    subst er
    rcases hsg with rfl | rfl | rfl
    · refine ⟨fun z => ?_, fun z => by cases z⟩
      have z : [c0] = [43] := z
      injection z with z
      omega
    · exact ⟨fun _ => rfl, fun _ => rfl⟩
    · exact ⟨fun z => absurd (show [45] = [43] from z) (by decide), fun z => absurd z (by decide)⟩
  have le : ∀ c ∈ (sg ++ rest).take 1, c < 128 := fun c m => by
    subst er
    rcases hsg with rfl | rfl | rfl
    · have m : c ∈ [c0] := m
      rw [List.mem_singleton] at m
      omega
    · have m : c ∈ [43] := m
      rw [List.mem_singleton] at m
      omega
    · have m : c ∈ [45] := m
      rw [List.mem_singleton] at m
      omega
  refine seq_step fun M hM => ?_
  walk_at "n"
  refine hM _ _ ?_
  refine seq_step fun M hM => ?_
  walk_at "n"
  refine sl_head (k := 1) hl ?_
  walk_at "n"
  rw [txt_minus]
  rw [show decide (txt ((sg ++ rest).take 1) = txt [45]) = decide (sg = [45]) from decide_eq_decide.mpr (txt_inj.trans e1)]
  refine hM _ _ ?_
  refine seq_step fun M hM => ?_
  walk_at "n"
  refine sl_head (k := 1) hl ?_
  walk_at "n"
  refine ⟨by decide, in_pm le ?_⟩
  rw [show decide ((sg ++ rest).take 1 = [45] ∨ (sg ++ rest).take 1 = [43]) = decide (sg ≠ []) from decide_eq_decide.mpr (by
    rw [e1, e2]
    rcases hsg with rfl | rfl | rfl <;> simp)]
  walk_at "n"
  have e3 : (if decide (sg ≠ []) = true then (1 : Int) else 0) = (sg.length : Int) := by
    rcases hsg with rfl | rfl | rfl <;> simp
  have e4 : (if decide (sg = [45]) = true then (1 : Int) else 0) = (if sg = [45] then 1 else 0) := by
    by_cases z : sg = [45]
    · rw [if_pos z, if_pos (decide_eq_true z)]
    · rw [if_neg z, if_neg (by rw [decide_eq_false z]; exact Bool.false_ne_true)]
  rw [e3, e4]
  clear e3 e4 e1 e2 le
  refine hM _ _ ?_
  generalize hsi : (if sg = [45] then (1 : Int) else 0) = s at *
  have L := hl
  rw [List.length_append] at L
  have ea : (sg ++ rest)[sg.length]? = some c0 := by
    rw [er]
    exact at_app
  refine seq_step fun M hM => ?_
  walk_at "n"
  refine sl_one ea (by omega) (by omega) hl ?_
  walk_at "n"
  rcases hn with ⟨rfl, rfl⟩ | hn
  · injection er with er
    subst er
    rw [decide_eq_true (show txt [105] = Str.ofString "i" by decide +kernel)]
    walk_at "n"
    refine seq_step fun M2 hM2 => ?_
    walk_at "n"
    rw [show (D.str "inf") = .str (txt [105, 110, 102]) from congrArg D.str txt_inf]
    refine ⟨sg, [105, 110, 102], rfl, hl, ?_⟩
    refine hM2 _ _ ?_
    walk_at "n"
    exact ⟨by decide, q⟩
  rw [decide_eq_false (show ¬ txt [c0] = Str.ofString "i" from fun z => by
    have z := txt_inj.mp (z.trans (show Str.ofString "i" = txt [105] by decide +kernel))
    injection z with z
    rcases hn with ⟨sh, pw, dg, b, k, rfl, _⟩ | ⟨sh, tail, dg, b, k, rfl, s, _⟩
    · injection er with er
      omega
    · obtain ⟨c, t, rfl, hc, _⟩ := s.front
      injection er with er
      subst er
      rcases hc with hc | rfl
      · have := decL_rng hc
        omega
      · omega)]
  walk_at "n"
  refine hM _ _ ?_
  refine seq_step fun M hM => ?_
  walk_at "n"
  refine sl_txt (k := 2) rfl (by omega) hl ?_
  walk_at "n"
  have e0x : Str.ofString "0x" = txt [48, 120] := by decide +kernel
  rw [e0x]
  rcases hn with ⟨sh, pw, dg, b, k, rfl, hs, hp, rfl⟩ | ⟨sh, tail, dg, b, k, rfl, hs, ht, rfl⟩
  · rw [decide_eq_true (show txt ((48 :: 120 :: (sh ++ 112 :: pw)).take 2) = txt [48, 120] from rfl)]
    walk_at "n"
    refine ⟨sg ++ [48, 120], sh, pw, dg, b, k, ?_, hs, hp, ?_, ?_⟩
    · rw [List.append_assoc, List.length_append]
      rfl
    · rw [List.append_assoc]
      exact hl
    · walk_at "n"
      exact ⟨by decide, q⟩
  · have no : ¬ txt ((sh ++ tail).take 2) = txt [48, 120] := fun z => by
      have z := txt_inj.mp z
      obtain ⟨c, t, rfl, hc, ht2⟩ := hs.front
      cases t with
      | nil =>
        rcases ht with ⟨rfl, _⟩ | ⟨pw, rfl, _⟩
        · cases z
        · injection z with _ z
          injection z with z
          omega
      | cons x t =>
        injection z with _ z
        injection z with z
        rcases ht2 x (List.mem_cons_self ..) with h | h
        · have := decL_rng h
          omega
        · omega
    rw [decide_eq_false no]
    walk_at "n"
    refine hM _ _ ?_
    walk_at "n"
    refine ⟨sg, sh, tail, dg, b, k, rfl, hs, ht, hl, ?_⟩
    walk_at "n"
    exact ⟨by decide, q⟩


theorem at_parse_text (T : Txt K mg) (A_scan_word : FnAt P w K mg base 1 "scan_word" ["text", "at", "word"] sp_scan_word) (A_scan_hex : FnAt P w K mg base 2 "scan_hex" ["text", "at"] sp_scan_hex) (A_scan_decimal : FnAt P w K mg base 2 "scan_decimal" ["text", "at"] sp_scan_decimal) : FnAt P w K mg base 3 "parse_text" ["value"] sp_parse_text :=
  fn_at (c := c_parse_text) T.d_parse_text sc_parse_text (fun f cdv A outer s H E hr => by
    have nd := sc_parse_text.nd
    exact (css_cons (cs_if (ct_not (ct_e (ce_isi (n := "str") (by decide) T.n_isinstance T.n_str (CE.bo (ce_v 0)))))
    (css_one cs_dead)
    css_nil)
    (css_cons (cs_set nd (ce_bt bt_int T.n_int (cba_cons (CE.bo (ce_cmp (op_eqDD hr.units) (CE.bo (ce_sl (CE.bo (ce_v 0)) co_none (co_some ce_i))) (CE.bo ce_s))) cba_nil)))
    (css_cons (cs_set nd (ce_bt bt_int T.n_int (cba_cons (CE.bo (ce_cmp (op_inDD hr) (CE.bo (ce_sl (CE.bo (ce_v 0)) co_none (co_some ce_i))) (CE.bo (ce_tup (ca_cons ce_s (ca_cons ce_s ca_nil)))))) cba_nil)))
    (css_cons (cs_if (ct_cmp (op_eqDD hr.units) (CE.bo (ce_sl (CE.bo (ce_v 0)) (co_some (ce_v 2)) (co_some (ce_op op_addD (CE.bo (ce_v 2)) (CE.bo ce_i))))) (CE.bo ce_s))
    (css_cons (cs_expr (ce_f A_scan_word hr (ca_cons (ce_v 0) (ca_cons (ce_v 2) (ca_cons ce_s ca_nil)))))
    (css_one (cs_ret (CE.bo (ce_tup (ca_cons (ce_v 1) (ca_cons ce_s ca_nil)))))))
    css_nil)
    (css_cons (cs_if (ct_cmp (op_eqDD hr.units) (CE.bo (ce_sl (CE.bo (ce_v 0)) (co_some (ce_v 2)) (co_some (ce_op op_addD (CE.bo (ce_v 2)) (CE.bo ce_i))))) (CE.bo ce_s))
    (css_one (cs_ret (CE.bo (ce_tup (ca_cons (ce_v 1) (ca_star (ce_f A_scan_hex hr (ca_cons (ce_v 0) (ca_cons (ce_op op_addD (CE.bo (ce_v 2)) (CE.bo ce_i)) ca_nil))) ca_nil))))))
    css_nil)
    (css_one (cs_ret (CE.bo (ce_tup (ca_cons (ce_v 1) (ca_star (ce_f A_scan_decimal hr (ca_cons (ce_v 0) (ca_cons (ce_v 2) ca_nil))) ca_nil))))))))))))
    (fun ds hc Q E h => len_parse_text h) (fun ds hc Q E h => pure_parse_text h) (fun _ _ _ _ _ _ us hl => match us, hl with | [_], _ => rfl)

abbrev N_law : List Str := ["_law_script", "_law_deck_here", "_law_turn", "_law_text_here", "_law_due", "_law_texts", "_law_dues"]
def c_law : CSx :=
  (cSeq (cAsg (cCall sp__law_deck (cCons (cV 0) cNil)) (gN 1))
    (cSeq (cFor (cR1 (cCons (cC (.int 40)) cNil)) (gN 2)
    (cSeq (cAsg (cCall sp__law_text (cCons (cV 1) cNil)) (gUn 2 (gCons' (gN 3) (gCons' (gN 4) gNil'))))
    (cIfS (cT (cOp neD (cFn reprD (cCons (cLst (cCons (cCall sp_parse_text (cCons (cV 3) cNil)) (cCons (cCall sp_parse_text (cCons (cV 3) cNil)) cNil))) cNil)) (cFn reprD (cCons (cLst (cCons (cV 4) (cCons (cV 4) cNil))) cNil))))
    (cRet (cC (.bl false)))
    cNext)))
    (cSeq (cAsg (cLst (cCons (cC (.str "-1.50e2")) (cCons (cC (.str "0x1.8p-1")) (cCons (cC (.str "+inf")) (cCons (cC (.str ".5")) (cCons (cC (.str "5.")) (cCons (cC (.str "00")) (cCons (cC (.str "-0")) (cCons (cC (.str "0x.0p+0")) (cCons (cC (.str "1e0001200")) (cCons (cC (.str "0e-0")) cNil))))))))))) (gN 5))
    (cSeq (cAsg (cLst (cCons (cTup (cCons (cC (.int 1)) (cCons (cC (.int 10)) (cCons (cC (.int 150)) (cCons (cC (.int 0)) cNil))))) (cCons (cTup (cCons (cC (.int 0)) (cCons (cC (.int 2)) (cCons (cC (.int 24)) (cCons (cUn negD (cC (.int 5))) cNil))))) (cCons (cTup (cCons (cC (.int 0)) (cCons (cC (.str "inf")) cNil))) (cCons (cTup (cCons (cC (.int 0)) (cCons (cC (.int 10)) (cCons (cC (.int 5)) (cCons (cUn negD (cC (.int 1))) cNil))))) (cCons (cTup (cCons (cC (.int 0)) (cCons (cC (.int 10)) (cCons (cC (.int 5)) (cCons (cC (.int 0)) cNil))))) (cCons (cTup (cCons (cC (.int 0)) (cCons (cC (.int 10)) (cCons (cC (.int 0)) (cCons (cC (.int 0)) cNil))))) (cCons (cTup (cCons (cC (.int 1)) (cCons (cC (.int 10)) (cCons (cC (.int 0)) (cCons (cC (.int 0)) cNil))))) cNil)))))))) (gN 6))
    (cSeq (cAsg (cOp addD (cV 6) (cLst (cCons (cTup (cCons (cC (.int 0)) (cCons (cC (.int 2)) (cCons (cC (.int 0)) (cCons (cUn negD (cC (.int 4))) cNil))))) (cCons (cTup (cCons (cC (.int 0)) (cCons (cC (.int 10)) (cCons (cC (.int 1)) (cCons (cC (.int 1200)) cNil))))) (cCons (cTup (cCons (cC (.int 0)) (cCons (cC (.int 10)) (cCons (cC (.int 0)) (cCons (cC (.int 0)) cNil))))) cNil))))) (gN 6))
    (cRet (cOp eqD (cFn reprD (cCons (cLc (cIt (cV 5)) (gN 3) cYes (cCall sp_parse_text (cCons (cV 3) cNil)) [3]) cNil)) (cFn reprD (cCons (cV 6) cNil)))))))))

def sp_law : Spc := spLaw
theorem len_law {ds : List D} {hc : CH} {Q E} (h : sp_law ds hc Q E) : ds.length = 1 := by
  obtain ⟨ns, rfl, _⟩ := h
  rfl
theorem pw_small {pw : List Nat} {most : Nat} {k : Int} (h : PwT most pw k) : k.natAbs ≤ most := by
  obtain ⟨sg, d, _, _, _, _, hm, hk⟩ := h.out
  split at hk <;> omega
theorem sh_b {sg : List Nat} {most : Nat} {sh dg : List Nat} {b : Nat} (h : ShT sg most sh dg b) : b ≤ most := by
  have := h.len
  rcases h.eq with ⟨rfl, rfl⟩ | ⟨u, v, rfl, rfl, rfl⟩
  · omega
  · rw [List.length_append] at this
    omega
theorem pow_hid {a b n m : Nat} (h : b ≤ 2 ^ a) (hm : a * n ≤ m) : b ^ n ≤ 2 ^ m := by
  refine Nat.le_trans (Nat.pow_le_pow_left h n) ?_
  rw [← Nat.pow_mul]
  exact Nat.pow_le_pow_right (by decide) hm
theorem numT_sh {rest : List Nat} {out : List D} (sg : List Nat) (h : NumT rest out) : Sh 1 51615 (.tup (.int (sgI sg) :: out)) := by
  have s0 : Sh 0 12901 (.int (sgI sg)) := by
    unfold sgI
    split <;> exact sh_small (by decide)
  refine sh_tupK (n := 0) (c := 12901) (k := 4) ?_ fun d hd => ?_
  · rcases h with ⟨_, rfl⟩ | ⟨_, _, _, _, _, _, _, _, rfl⟩ | ⟨_, _, _, _, _, _, _, _, rfl⟩ <;> exact Nat.le_of_ble_eq_true rfl
  · rcases List.mem_cons.mp hd with rfl | hd
    · exact s0
    rcases h with ⟨_, rfl⟩ | ⟨sh, pw, dg, b, k, _, s, p, rfl⟩ | ⟨sh, tail, dg, b, k, _, s, t, rfl⟩
    · rw [List.mem_singleton.mp hd]
      exact (sh_str (c := 5) (by decide +kernel)).up (Nat.le_refl _) (by decide)
    · have b1 := sh_b s
      have b2 := pw_small p
      simp only [List.mem_cons, List.not_mem_nil, or_false] at hd
      rcases hd with rfl | rfl | rfl
      · exact sh_small (by decide)
      · exact sh_big (by
          rw [Int.natAbs_natCast]
          exact Nat.lt_of_lt_of_le (hex_lt (hexL_all s.mem)) (pow_hid (a := 4) (by decide) (by have := s.len; omega)))
      · exact sh_small (by omega)
    · have b1 := sh_b s
      have b2 : k.natAbs ≤ 1200 := by
        rcases t with ⟨_, rfl⟩ | ⟨pw, _, p⟩
        · decide
        · exact pw_small p
      simp only [List.mem_cons, List.not_mem_nil, or_false] at hd
      rcases hd with rfl | rfl | rfl
      · exact sh_small (by decide)
      · exact sh_big (by
          rw [Int.natAbs_natCast]
          exact Nat.lt_of_lt_of_le (val_lt (decL_all s.mem)) (pow_hid (a := 4) (by decide) (by have := s.len; omega)))
      · exact sh_small (by omega)
theorem two_sh {x : D} (h : Sh 1 51615 x) : ShOk (.lst [x, x]) := (sh_lstK (n := 1) (c := 51615) (k := 2) (Nat.le_refl _) fun d hd => by
  simp only [List.mem_cons, List.not_mem_nil, or_false, or_self] at hd
  rw [hd]
  exact h).ok
theorem yes_step {E : XP} {sc : List Sl} {hc : CH} {P : Bool → CH → Prop} (h : P true hc) : cYes E sc hc P := h
theorem ptx {sg rest : List Nat} {out : List D} {hc : CH} {Q : D → CH → Prop} {E} {s : String} (e : Str.ofString s = txt (sg ++ rest)) (h1 : SgT sg) (h2 : NumT rest out) (h3 : (sg ++ rest).length ≤ 100000) (q : Q (.tup (.int (sgI sg) :: out)) hc) : sp_parse_text [.str s] hc Q E := by
  rw [e]
  exact ⟨sg, rest, out, rfl, h1, h2, h3, q⟩
theorem pwt {most : Nat} {sg d : List Nat} {k : Int} (h1 : SgT sg) (h2 : PySem.NumText.AllDigits d) (h3 : d ≠ []) (h4 : PySem.NumText.digitsVal d ≤ most) (h5 : k = if sg = [45] then 0 - (PySem.NumText.digitsVal d : Int) else (PySem.NumText.digitsVal d : Int)) : PwT most (sg ++ d) k := ⟨sg, d, rfl, h1, h2, h3, h4, h5⟩
theorem alld {d : List Nat} (h : d.all (fun c => decide (48 ≤ c) && decide (c ≤ 57)) = true) : PySem.NumText.AllDigits d := fun c hc => by
  have := List.all_eq_true.mp h c hc
  rw [Bool.and_eq_true] at this
  exact ⟨of_decide_eq_true this.1, of_decide_eq_true this.2⟩
theorem shi {sg : List Nat} {most : Nat} (dg : List Nat) (h1 : dg.all (fun c => sg.contains c) = true) (h2 : dg ≠ []) (h3 : dg.length ≤ most) : ShT sg most dg dg 0 := ⟨.inl ⟨rfl, rfl⟩, fun c hc => by simpa using List.all_eq_true.mp h1 c hc, h2, h3⟩
theorem shd {sg : List Nat} {most : Nat} (u v : List Nat) (h1 : (u ++ v).all (fun c => sg.contains c) = true) (h2 : u ++ v ≠ []) (h3 : (u ++ v).length ≤ most) : ShT sg most (u ++ 46 :: v) (u ++ v) v.length := ⟨.inr ⟨u, v, rfl, rfl, rfl⟩, fun c hc => by simpa using List.all_eq_true.mp h1 c hc, h2, h3⟩
theorem t1 : NumT [49, 46, 53, 48, 101, 50] [.int 10, .int 150, .int 0] := .inr (.inr ⟨[49] ++ 46 :: [53, 48], 101 :: [50], [49, 53, 48], 2, 2, rfl, shd [49] [53, 48] (by decide) (by decide) (by decide), .inr ⟨_, rfl, pwt (sg := []) (.inl rfl) (alld (by decide)) (by decide) (by decide) rfl⟩, rfl⟩)
theorem t2 : NumT [48, 120, 49, 46, 56, 112, 45, 49] [.int 2, .int 24, .int (-5)] := .inr (.inl ⟨[49] ++ 46 :: [56], [45, 49], [49, 56], 1, -1, rfl, shd [49] [56] (by decide) (by decide) (by decide), pwt (sg := [45]) (.inr (.inr rfl)) (d := [49]) (alld (by decide)) (by decide) (by decide) rfl, rfl⟩)
theorem t4 : NumT [46, 53] [.int 10, .int 5, .int (-1)] := .inr (.inr ⟨[] ++ 46 :: [53], [], [53], 1, 0, rfl, shd [] [53] (by decide) (by decide) (by decide), .inl ⟨rfl, rfl⟩, rfl⟩)
theorem t5 : NumT [53, 46] [.int 10, .int 5, .int 0] := .inr (.inr ⟨[53] ++ 46 :: [], [], [53], 0, 0, rfl, shd [53] [] (by decide) (by decide) (by decide), .inl ⟨rfl, rfl⟩, rfl⟩)
theorem t6 : NumT [48, 48] [.int 10, .int 0, .int 0] := .inr (.inr ⟨[48, 48], [], [48, 48], 0, 0, rfl, shi _ (by decide) (by decide) (by decide), .inl ⟨rfl, rfl⟩, rfl⟩)
theorem t7 : NumT [48] [.int 10, .int 0, .int 0] := .inr (.inr ⟨[48], [], [48], 0, 0, rfl, shi _ (by decide) (by decide) (by decide), .inl ⟨rfl, rfl⟩, rfl⟩)
theorem t8 : NumT [48, 120, 46, 48, 112, 43, 48] [.int 2, .int 0, .int (-4)] := .inr (.inl ⟨[] ++ 46 :: [48], [43, 48], [48], 1, 0, rfl, shd [] [48] (by decide) (by decide) (by decide), pwt (sg := [43]) (.inr (.inl rfl)) (d := [48]) (alld (by decide)) (by decide) (by decide) rfl, rfl⟩)
theorem t9 : NumT [49, 101, 48, 48, 48, 49, 50, 48, 48] [.int 10, .int 1, .int 1200] := .inr (.inr ⟨[49], 101 :: [48, 48, 48, 49, 50, 48, 48], [49], 0, 1200, rfl, shi _ (by decide) (by decide) (by decide), .inr ⟨_, rfl, pwt (sg := []) (.inl rfl) (alld (by decide)) (by decide) (by decide) rfl⟩, rfl⟩)
theorem t10 : NumT [48, 101, 45, 48] [.int 10, .int 0, .int 0] := .inr (.inr ⟨[48], 101 :: [45, 48], [48], 0, 0, rfl, shi _ (by decide) (by decide) (by decide), .inr ⟨_, rfl, pwt (sg := [45]) (.inr (.inr rfl)) (d := [48]) (alld (by decide)) (by decide) (by decide) rfl⟩, rfl⟩)
def duesL : List D := [.tup [.int 1, .int 10, .int 150, .int 0], .tup [.int 0, .int 2, .int 24, .int (-5)], .tup [.int 0, .str "inf"], .tup [.int 0, .int 10, .int 5, .int (-1)], .tup [.int 0, .int 10, .int 5, .int 0], .tup [.int 0, .int 10, .int 0, .int 0], .tup [.int 1, .int 10, .int 0, .int 0], .tup [.int 0, .int 2, .int 0, .int (-4)], .tup [.int 0, .int 10, .int 1, .int 1200], .tup [.int 0, .int 10, .int 0, .int 0]]
theorem dues_sh : ShOk (.lst duesL) := (Sh.lit (n := 3) (c := 1000) (by decide +kernel)).ok
theorem pure_law {ds : List D} {hc : CH} {Q : D → CH → Prop} {E} (h : sp_law ds hc Q E) : c_law { nx := fun _ hc' => Q .non hc', rt := Q } (startC N_law ds) hc := by
  obtain ⟨ns, rfl, hl, k⟩ := h
  unfold c_law N_law
  refine seq_step fun M hM => ?_
  walk_at "n"
  refine ⟨ns, rfl, hl, fun r q hc1 dk => hM _ _ ?_⟩
  refine seq_step fun M hM => ?_
  refine for_step fun R hR => ?_
  walk_at "n"
  refine hR _ _ (fun i sc h => (∃ o2 o3 o4 o5 o6, sc = [.val (.frz (ns.map D.int)), .val (.ref r), o2, o3, o4, o5, o6]) ∧ Dk hc r q (1400 * i) h) ⟨⟨_, _, _, _, _, rfl⟩, dk⟩ (fun j d sc h Nx e I nx => ?_) (fun sc h I => ?_)
  · obtain ⟨⟨o2, o3, o4, o5, o6, rfl⟩, dk⟩ := I
    obtain ⟨rfl, jp⟩ := rng_at e
    clear e
    have j4 : j < 40 := by omega
    walk_at "n"
    refine seq_step fun M2 hM2 => ?_
    walk_at "n"
    refine ⟨hc, r, q, _, rfl, dk, by omega, fun sg rest out hc3 h1 h2 h3 dk => ?_⟩
    walk_at "n"
    refine hM2 _ _ ?_
    have sx := two_sh (numT_sh sg h2)
    walk_at "n"
    refine ⟨sg, rest, out, rfl, h1, h2, h3, ?_⟩
    walk_at "n"
    refine ⟨sg, rest, out, rfl, h1, h2, h3, ?_⟩
    refine ⟨by decide, sx, ?_⟩
    refine ⟨by decide, sx, ?_⟩
    rw [decide_eq_true (show shw (.lst [.tup (.int (if sg = [45] then 1 else 0) :: out), .tup (.int (if sg = [45] then 1 else 0) :: out)]) = shw (.lst [.tup (.int (sgI sg) :: out), .tup (.int (sgI sg) :: out)]) from rfl)]
    walk_at "n"
    exact nx _ _ ⟨⟨_, _, _, _, _, rfl⟩, dk.mono (by omega)⟩
  · obtain ⟨⟨o2, o3, o4, o5, o6, rfl⟩, dk⟩ := I
    refine hM _ _ ?_
    refine seq_step fun M hM => ?_
    refine asg_step fun L hL => ?_
    walk_at "n"
    refine ⟨by decide, hL _ _ (hM _ _ ?_)⟩
    refine seq_step fun M hM => ?_
    refine asg_step fun L hL => ?_
    walk_at "n"
    refine ⟨by decide, by decide, by decide, by decide, by decide, by decide, by decide, by decide, hL _ _ (hM _ _ ?_)⟩
    refine seq_step fun M hM => ?_
    refine asg_step fun L hL => ?_
    walk_at "n"
    refine ⟨by decide, by decide, by decide, by decide, by decide, hL _ _ (hM _ _ ?_)⟩
    walk_at "n"
    refine lc_inv fun R2 hR2 => ?_
    walk_at "n"
    refine hR2 _ _ (fun i acc h2 => h2 = h ∧ acc = duesL.take i) (by decide) ⟨rfl, rfl⟩ (fun j d acc h2 Nx e I nx => ?_) (fun acc h2 I => ?_)
    · obtain ⟨rfl, rfl⟩ := I
      have jl : j < 10 := (List.getElem?_eq_some_iff.mp e).1
      walk_at "n"
      have js : j = 0 ∨ j = 1 ∨ j = 2 ∨ j = 3 ∨ j = 4 ∨ j = 5 ∨ j = 6 ∨ j = 7 ∨ j = 8 ∨ j = 9 := by omega
      rcases js with rfl | rfl | rfl | rfl | rfl | rfl | rfl | rfl | rfl | rfl
      all_goals
        injection e with e
        subst e
        refine yes_step ?_
        rw [if_pos rfl]
      · exact ptx (sg := [45]) (by decide +kernel) (.inr (.inr rfl)) t1 (by decide) (nx _ _ ⟨rfl, rfl⟩)
      · exact ptx (sg := []) (by decide +kernel) (.inl rfl) t2 (by decide) (nx _ _ ⟨rfl, rfl⟩)
      · exact ptx (sg := [43]) (by decide +kernel) (.inr (.inl rfl)) (.inl ⟨rfl, rfl⟩) (by decide) (nx _ _ ⟨rfl, rfl⟩)
      · exact ptx (sg := []) (by decide +kernel) (.inl rfl) t4 (by decide) (nx _ _ ⟨rfl, rfl⟩)
      · exact ptx (sg := []) (by decide +kernel) (.inl rfl) t5 (by decide) (nx _ _ ⟨rfl, rfl⟩)
      · exact ptx (sg := []) (by decide +kernel) (.inl rfl) t6 (by decide) (nx _ _ ⟨rfl, rfl⟩)
      · exact ptx (sg := [45]) (by decide +kernel) (.inr (.inr rfl)) t7 (by decide) (nx _ _ ⟨rfl, rfl⟩)
      · exact ptx (sg := []) (by decide +kernel) (.inl rfl) t8 (by decide) (nx _ _ ⟨rfl, rfl⟩)
      · exact ptx (sg := []) (by decide +kernel) (.inl rfl) t9 (by decide) (nx _ _ ⟨rfl, rfl⟩)
      · exact ptx (sg := []) (by decide +kernel) (.inl rfl) t10 (by decide) (nx _ _ ⟨rfl, rfl⟩)
    · obtain ⟨rfl, rfl⟩ := I
      have e1 : duesL.take 10 = duesL := rfl
      walk_at "n"
      refine ⟨dues_sh, dues_sh, ?_⟩
      show Q (.bl (decide (shw (.lst duesL) = shw (.lst duesL)))) _
      rw [decide_eq_true rfl]
      exact k _


theorem at_law (T : Txt K mg) (A__law_deck : FnAt P w K mg base 1 "_law_deck" ["_law_script"] sp__law_deck) (A__law_text : FnAt P w K mg base 3 "_law_text" ["_law_deck_here"] sp__law_text) (A_parse_text : FnAt P w K mg base 3 "parse_text" ["value"] sp_parse_text) : FnAt P w K mg base 4 "law" ["_law_script"] sp_law :=
  fn_at (c := c_law) T.d_law sc_law (fun f cdv A outer s H E hr => by
    have nd := sc_law.nd
    exact (css_cons (cs_set nd (ce_f A__law_deck hr (ca_cons (ce_v 0) ca_nil)))
    (css_cons (cs_for PassesOwn.never rfl (ci_r1 T.n_range (ca_cons ce_i ca_nil)) (cg_n 2 nd)
    (css_cons (cs_asg (ce_f A__law_text hr (ca_cons (ce_v 1) ca_nil)) (cg_u rfl (cgs_cons (cg_n 3 nd) (cgs_cons (cg_n 4 nd) cgs_nil))))
    (css_one (cs_if (ct_cmp (op_neDD hr.units) (CE.bo (ce_bf (bf_repr hr T.lim) T.n_repr (cba_cons (CE.bo (ce_lst (ca_cons (ce_f A_parse_text hr (ca_cons (ce_v 3) ca_nil)) (ca_cons (ce_f A_parse_text hr (ca_cons (ce_v 3) ca_nil)) ca_nil)))) cba_nil))) (CE.bo (ce_bf (bf_repr hr T.lim) T.n_repr (cba_cons (CE.bo (ce_lst (ca_cons (ce_v 4) (ca_cons (ce_v 4) ca_nil)))) cba_nil))))
    (css_one (cs_ret (CE.bo ce_b)))
    css_nil))))
    (css_cons (cs_set nd (ce_lst (ca_cons ce_s (ca_cons ce_s (ca_cons ce_s (ca_cons ce_s (ca_cons ce_s (ca_cons ce_s (ca_cons ce_s (ca_cons ce_s (ca_cons ce_s (ca_cons ce_s ca_nil))))))))))))
    (css_cons (cs_set nd (ce_lst (ca_cons (ce_tup (ca_cons ce_i (ca_cons ce_i (ca_cons ce_i (ca_cons ce_i ca_nil))))) (ca_cons (ce_tup (ca_cons ce_i (ca_cons ce_i (ca_cons ce_i (ca_cons (ce_un un_negD (CE.bo ce_i)) ca_nil))))) (ca_cons (ce_tup (ca_cons ce_i (ca_cons ce_s ca_nil))) (ca_cons (ce_tup (ca_cons ce_i (ca_cons ce_i (ca_cons ce_i (ca_cons (ce_un un_negD (CE.bo ce_i)) ca_nil))))) (ca_cons (ce_tup (ca_cons ce_i (ca_cons ce_i (ca_cons ce_i (ca_cons ce_i ca_nil))))) (ca_cons (ce_tup (ca_cons ce_i (ca_cons ce_i (ca_cons ce_i (ca_cons ce_i ca_nil))))) (ca_cons (ce_tup (ca_cons ce_i (ca_cons ce_i (ca_cons ce_i (ca_cons ce_i ca_nil))))) ca_nil)))))))))
    (css_cons (cs_set nd (ce_op op_addD (CE.bo (ce_v 6)) (CE.bo (ce_lst (ca_cons (ce_tup (ca_cons ce_i (ca_cons ce_i (ca_cons ce_i (ca_cons (ce_un un_negD (CE.bo ce_i)) ca_nil))))) (ca_cons (ce_tup (ca_cons ce_i (ca_cons ce_i (ca_cons ce_i (ca_cons ce_i ca_nil))))) (ca_cons (ce_tup (ca_cons ce_i (ca_cons ce_i (ca_cons ce_i (ca_cons ce_i ca_nil))))) ca_nil)))))))
    (css_one (cs_ret (CE.bo (ce_cmp (op_eqDD hr.units) (CE.bo (ce_bf (bf_repr hr T.lim) T.n_repr (cba_cons (CE.bo (ce_lc rfl nd (own := [("_law_text_here", 3)]) (ci_e (ce_v 5)) (blkOk_by (N := ["_law_script", "_law_deck_here", "_law_turn", "_law_text_here", "_law_due", "_law_texts", "_law_dues"]) (sc := defScope s_law) (own := [("_law_text_here", 3)]) (by decide +kernel)) (fun _ _ _ _ _ => (cgk_n 3 nd)) (fun _ _ _ _ _ => cts_nil) (fun _ _ _ _ _ => (ce_f A_parse_text hr (ca_cons (ce_v 3) ca_nil))))) cba_nil))) (CE.bo (ce_bf (bf_repr hr T.lim) T.n_repr (cba_cons (CE.bo (ce_v 6)) cba_nil)))))))))))))
    (fun ds hc Q E h => len_law h) (fun ds hc Q E h => pure_law h) (fun _ _ _ _ _ _ us hl => match us, hl with | [_], _ => rfl)

/-! the head -/

def dd__law_deck : He.DefD := ⟨("_law_deck", none), "_law_deck", "_law_deck", defArgs s__law_deck, defBody s__law_deck, defScope s__law_deck, [], []⟩

def dd__law_draw : He.DefD := ⟨("_law_draw", none), "_law_draw", "_law_draw", defArgs s__law_draw, defBody s__law_draw, defScope s__law_draw, [], []⟩

def dd__law_digits : He.DefD := ⟨("_law_digits", none), "_law_digits", "_law_digits", defArgs s__law_digits, defBody s__law_digits, defScope s__law_digits, [], []⟩

def dd__law_dotted : He.DefD := ⟨("_law_dotted", none), "_law_dotted", "_law_dotted", defArgs s__law_dotted, defBody s__law_dotted, defScope s__law_dotted, [], []⟩

def dd__law_power : He.DefD := ⟨("_law_power", none), "_law_power", "_law_power", defArgs s__law_power, defBody s__law_power, defScope s__law_power, [], []⟩

def dd__law_read : He.DefD := ⟨("_law_read", none), "_law_read", "_law_read", defArgs s__law_read, defBody s__law_read, defScope s__law_read, [], []⟩

def dd__law_text : He.DefD := ⟨("_law_text", none), "_law_text", "_law_text", defArgs s__law_text, defBody s__law_text, defScope s__law_text, [], []⟩

def dd_scan_word : He.DefD := ⟨("scan_word", none), "scan_word", "scan_word", defArgs s_scan_word, defBody s_scan_word, defScope s_scan_word, [], []⟩

def dd_scan_digits : He.DefD := ⟨("scan_digits", none), "scan_digits", "scan_digits", defArgs s_scan_digits, defBody s_scan_digits, defScope s_scan_digits, [], []⟩

def dd_scan_power : He.DefD := ⟨("scan_power", none), "scan_power", "scan_power", defArgs s_scan_power, defBody s_scan_power, defScope s_scan_power, [], []⟩

def dd_scan_hex : He.DefD := ⟨("scan_hex", none), "scan_hex", "scan_hex", defArgs s_scan_hex, defBody s_scan_hex, defScope s_scan_hex, [], []⟩

def dd_scan_decimal : He.DefD := ⟨("scan_decimal", none), "scan_decimal", "scan_decimal", defArgs s_scan_decimal, defBody s_scan_decimal, defScope s_scan_decimal, [], []⟩

def dd_parse_text : He.DefD := ⟨("parse_text", none), "parse_text", "parse_text", defArgs s_parse_text, defBody s_parse_text, defScope s_parse_text, [], []⟩

def dd_law : He.DefD := ⟨("law", none), "law", "law", defArgs s_law, defBody s_law, defScope s_law, [], []⟩

def fn : List He.DefD := [dd__law_deck, dd__law_draw, dd__law_digits, dd__law_dotted, dd__law_power, dd__law_read, dd__law_text, dd_scan_word, dd_scan_digits, dd_scan_power, dd_scan_hex, dd_scan_decimal, dd_parse_text, dd_law]

def fa : List He.Fa := [.glo "_law_deck", .glo "_law_draw", .glo "_law_digits", .glo "_law_dotted", .glo "_law_power", .glo "_law_read", .glo "_law_text", .glo "scan_word", .glo "scan_digits", .glo "scan_power", .glo "scan_hex", .glo "scan_decimal", .glo "parse_text", .glo "law", .free "abs", .free "enumerate", .free "int", .free "isinstance", .free "len", .free "max", .free "range", .free "repr", .free "str", .str "DIGITS" "0123456789", .str "HEX_DIGITS" "0123456789abcdef", .int "MOST_DIGITS" 1300, .int "MOST_HEX" 300, .int "MOST_HEX_POWER" 1400, .int "MOST_POWER" 1200]

def tc : TupC := []

abbrev R : PySem.W.OpenRow := PySem.W.OpenLaw.row PySem.Challenge.rw_numbertexts_k12_number_texts_parsed
abbrev hk : PySem.W.Hook := hookU 4 fa fn tc
def ob (s : PySem.W.SharedT) : He.AlD × Bool := obsUG 4 fa fn tc (HandSHeadRun.getT s)
theorem ob_eq (s : PySem.W.SharedT) : ob s = hk.obs s.abs := obsUG_eq (HandSHeadRun.getT_eq s)

def loose : List PySem.Str := (["NumberError", "BadText", "DIGITS", "HEX_DIGITS", "MOST_DIGITS", "MOST_HEX", "MOST_POWER", "MOST_HEX_POWER", "scan_digits", "scan_power", "scan_word", "scan_decimal"] : List PySem.Str) ++ (["scan_hex", "parse_text", "_law_deck", "_law_draw", "_law_read", "_law_digits", "_law_dotted", "_law_power", "_law_text"] : List PySem.Str)

theorem run (w : World) : HandSHeadRun.RunEq R (PySem.W.view R.prog [24]) hk ob 3400 loose w := by
  intro os
  kernel_rfl

theorem txt_of {h : Heap} (X : K.In h) (G : h.Ns mainGlobals mg) (u : SaysU fa fn tc K) : Txt K mg where
    d__law_deck := by
      obtain ⟨fd, F⟩ := u.d.def_ 0 (d := dd__law_deck) rfl
      exact ⟨_, fd, F, He.glo_ok X G (u.d.fact 0 (f := .glo "_law_deck") rfl)⟩
    d__law_draw := by
      obtain ⟨fd, F⟩ := u.d.def_ 1 (d := dd__law_draw) rfl
      exact ⟨_, fd, F, He.glo_ok X G (u.d.fact 1 (f := .glo "_law_draw") rfl)⟩
    d__law_digits := by
      obtain ⟨fd, F⟩ := u.d.def_ 2 (d := dd__law_digits) rfl
      exact ⟨_, fd, F, He.glo_ok X G (u.d.fact 2 (f := .glo "_law_digits") rfl)⟩
    d__law_dotted := by
      obtain ⟨fd, F⟩ := u.d.def_ 3 (d := dd__law_dotted) rfl
      exact ⟨_, fd, F, He.glo_ok X G (u.d.fact 3 (f := .glo "_law_dotted") rfl)⟩
    d__law_power := by
      obtain ⟨fd, F⟩ := u.d.def_ 4 (d := dd__law_power) rfl
      exact ⟨_, fd, F, He.glo_ok X G (u.d.fact 4 (f := .glo "_law_power") rfl)⟩
    d__law_read := by
      obtain ⟨fd, F⟩ := u.d.def_ 5 (d := dd__law_read) rfl
      exact ⟨_, fd, F, He.glo_ok X G (u.d.fact 5 (f := .glo "_law_read") rfl)⟩
    d__law_text := by
      obtain ⟨fd, F⟩ := u.d.def_ 6 (d := dd__law_text) rfl
      exact ⟨_, fd, F, He.glo_ok X G (u.d.fact 6 (f := .glo "_law_text") rfl)⟩
    d_scan_word := by
      obtain ⟨fd, F⟩ := u.d.def_ 7 (d := dd_scan_word) rfl
      exact ⟨_, fd, F, He.glo_ok X G (u.d.fact 7 (f := .glo "scan_word") rfl)⟩
    d_scan_digits := by
      obtain ⟨fd, F⟩ := u.d.def_ 8 (d := dd_scan_digits) rfl
      exact ⟨_, fd, F, He.glo_ok X G (u.d.fact 8 (f := .glo "scan_digits") rfl)⟩
    d_scan_power := by
      obtain ⟨fd, F⟩ := u.d.def_ 9 (d := dd_scan_power) rfl
      exact ⟨_, fd, F, He.glo_ok X G (u.d.fact 9 (f := .glo "scan_power") rfl)⟩
    d_scan_hex := by
      obtain ⟨fd, F⟩ := u.d.def_ 10 (d := dd_scan_hex) rfl
      exact ⟨_, fd, F, He.glo_ok X G (u.d.fact 10 (f := .glo "scan_hex") rfl)⟩
    d_scan_decimal := by
      obtain ⟨fd, F⟩ := u.d.def_ 11 (d := dd_scan_decimal) rfl
      exact ⟨_, fd, F, He.glo_ok X G (u.d.fact 11 (f := .glo "scan_decimal") rfl)⟩
    d_parse_text := by
      obtain ⟨fd, F⟩ := u.d.def_ 12 (d := dd_parse_text) rfl
      exact ⟨_, fd, F, He.glo_ok X G (u.d.fact 12 (f := .glo "parse_text") rfl)⟩
    d_law := by
      obtain ⟨fd, F⟩ := u.d.def_ 13 (d := dd_law) rfl
      exact ⟨_, fd, F, He.glo_ok X G (u.d.fact 13 (f := .glo "law") rfl)⟩
    n_abs := He.free_ok X G (u.d.fact 14 (f := .free "abs") rfl)
    n_enumerate := He.free_ok X G (u.d.fact 15 (f := .free "enumerate") rfl)
    n_int := He.free_ok X G (u.d.fact 16 (f := .free "int") rfl)
    n_isinstance := He.free_ok X G (u.d.fact 17 (f := .free "isinstance") rfl)
    n_len := He.free_ok X G (u.d.fact 18 (f := .free "len") rfl)
    n_max := He.free_ok X G (u.d.fact 19 (f := .free "max") rfl)
    n_range := He.free_ok X G (u.d.fact 20 (f := .free "range") rfl)
    n_repr := He.free_ok X G (u.d.fact 21 (f := .free "repr") rfl)
    n_str := He.free_ok X G (u.d.fact 22 (f := .free "str") rfl)
    k_DIGITS := GlobC.str (He.str_ok X G (u.d.fact 23 (f := .str "DIGITS" "0123456789") rfl))
    k_HEX_DIGITS := GlobC.str (He.str_ok X G (u.d.fact 24 (f := .str "HEX_DIGITS" "0123456789abcdef") rfl))
    k_MOST_DIGITS := GlobC.int (He.int_ok X G (u.d.fact 25 (f := .int "MOST_DIGITS" 1300) rfl))
    k_MOST_HEX := GlobC.int (He.int_ok X G (u.d.fact 26 (f := .int "MOST_HEX" 300) rfl))
    k_MOST_HEX_POWER := GlobC.int (He.int_ok X G (u.d.fact 27 (f := .int "MOST_HEX_POWER" 1400) rfl))
    k_MOST_POWER := GlobC.int (He.int_ok X G (u.d.fact 28 (f := .int "MOST_POWER" 1200) rfl))
    lim := u.s

theorem law_at (T : Txt K mg) : FnAt P w K mg base 4 "law" ["_law_script"] sp_law := by
  have A__law_deck := at__law_deck (P := P) (w := w) (base := base) T 
  have A__law_draw := at__law_draw (P := P) (w := w) (base := base) T 
  have A__law_digits := at__law_digits (P := P) (w := w) (base := base) T A__law_draw
  have A__law_dotted := at__law_dotted (P := P) (w := w) (base := base) T A__law_draw
  have A__law_power := at__law_power (P := P) (w := w) (base := base) T A__law_draw
  have A__law_read := at__law_read (P := P) (w := w) (base := base) T 
  have A__law_text := at__law_text (P := P) (w := w) (base := base) T A__law_draw A__law_digits A__law_dotted A__law_power A__law_read
  have A_scan_word := at_scan_word (P := P) (w := w) (base := base) T 
  have A_scan_digits := at_scan_digits (P := P) (w := w) (base := base) T 
  have A_scan_power := at_scan_power (P := P) (w := w) (base := base) T 
  have A_scan_hex := at_scan_hex (P := P) (w := w) (base := base) T A_scan_digits A_scan_power
  have A_scan_decimal := at_scan_decimal (P := P) (w := w) (base := base) T A_scan_digits A_scan_power
  have A_parse_text := at_parse_text (P := P) (w := w) (base := base) T A_scan_word A_scan_hex A_scan_decimal
  have A_law := at_law (P := P) (w := w) (base := base) T A__law_deck A__law_text A_parse_text
  exact A_law

end Lk12
open PySem PySem.W PySem.Calls PyProof.Rows
set_option maxHeartbeats 0 in

theorem PySem.Challenge.cw_numbertexts_k12_number_texts_parsed_holds : PySem.Challenge.rw_numbertexts_k12_number_texts_parsed.Holds := by
  w_on; o_law
  refine HandSHeadRun.head_any (r := OpenLaw.row PySem.Challenge.rw_numbertexts_k12_number_texts_parsed) (q := view (OpenLaw.row PySem.Challenge.rw_numbertexts_k12_number_texts_parsed).prog [24]) (H := Lk12.hk) (ob := Lk12.ob) (M := 3400) (loose := Lk12.loose) (d := HandSHeadRun.topDef (OpenLaw.row PySem.Challenge.rw_numbertexts_k12_number_texts_parsed).prog 24) (kwd := []) Lk12.ob_eq
    (by kernel_rfl) (fun s => by kernel_rfl) Lk12.run (by kernel_rfl) (by kernel_rfl) (by kernel_rfl) (by rfl) (by first | assumption | decide +kernel) (by decide +kernel) ⟨rfl, rfl, rfl, rfl, rfl, by decide +kernel⟩ ?hw ?hc
  case hw => w_witness2
  case hc =>
    refine Mn.walkG (l := PySem.Challenge.rw_numbertexts_k12_number_texts_parsed) (n := 63) (k := 4) (x := "_law_script") (C := L2.CX0) rfl (by decide) (by kernel_rfl) ⟨rfl, by decide, by decide⟩ ?F (fun _ _ _ _ z => z)
    intro w mg fa h Y G hmg0
    obtain ⟨K, KX, c⟩ := Y
    have hmg : mg ("law" : PySem.Str) = some (.ref fa) := by
      have e : (HandSHeadRun.topDef (OpenLaw.row PySem.Challenge.rw_numbertexts_k12_number_texts_parsed).prog 24).name = ("law" : PySem.Str) := by kernel_rfl
      rw [← e]
      exact hmg0
    have T := Lk12.txt_of KX G c
    exact Mn.law_fin KX T.d_law hmg (fun _ _ _ _ _ _ us hl => match us, hl with | [_], _ => rfl) fun base => Lk12.law_at (P := (PySem.Challenge.rw_numbertexts_k12_number_texts_parsed).prog) (w := w) (base := base) T
