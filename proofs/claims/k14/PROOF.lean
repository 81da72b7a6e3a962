import PyProof.Rows.All
import Wide.All
import OpenK.AllK
import Wide.FinOn
import KE.KStateDown
import HandS.ForMost
import HandS.ForMost
import HandS.Wide
import HandS.WideBits
import HandS.ForExc
import HandS.Defaults
import HandS.HeadEnd
import PyProof.ReprRoads
import HandS.TupAny
import HandS.Star
import HandS.Lambda
import HandS.Nested
import HandS.HeadHook4
import HandS.TupMul
import PyProof.LongRange
import HandS.Style
import HandS.NoneIn
import HandS.IsInst
import HandS.Head0
import HandS.Head1
import HandS.Head2
import HandS.HeadHook1
import HandS.HeadHook2
import HandS.Dict
import PyProof.P3In
import PyProof.StrLawsRepr
import PyProof.RulesMatch
import KE.BitLaws
import HandS.Iter
import HandS.Conv
import PyProof.Rows.StrDigits
import HandS.StrMore
import KE.GoesMore
import HandS.SetFor
import HandS.Strs
import PyProof.Rows.SortShellAny
import HandS.Replace
import HandS.IntHex
import KE.KIntText
import KE.KLam
import KE.KExcSuper
import KE.KExcInit
import HandS.ExcSuper
import HandS.ExcField
import HandS.ExcIs
import HandS.ExcInit
import PyProof.InstEq
import PyProof.Rows.StrInSeq
import HandS.OwnEq
import HandS.Spec
import HandS.Sort
import HandS.SortOrd
import HandS.SortRule
import KE.GoesZip
import KE.KDictZip
import HandS.GenList
import HandS.SortKw
import HandS.Keys
import PyProof.GenQ
import HandS.SetIn
import PyProof.Rows.StrPadFill
import HandS.More
import HandS.HeadHook3
import KE.KTryMore
import KE.KIsAll
import KE.DataFind
import KE.DataMinMax
import PySem.Challenge.RW_numbertexts_k14_texts_read
set_option Elab.async false
set_option linter.all false
set_option maxRecDepth 100000
namespace Mn
open PySem PySem.Spec PyProof.Rows L2
structure RG (k : Nat) (A : Around) : Prop where
  r : Room k A
  g : A.guards = some []
theorem RG.mono {j k : Nat} {A : Around} (x : RG k A) (h : j ≤ k) : RG j A := ⟨x.r.mono h, x.g⟩
theorem RG.deeper {k : Nat} {A : Around} (x : RG (k + 1) A) (env : Env) : RG k (A.deeper env) := ⟨x.r.deeper env, x.g⟩
theorem RG.units {k : Nat} {A : Around} (x : RG k A) : A.units + 64 < cLine := x.r.units
structure FnG (P : Program) (w : World) (K : PySem.W.Frag) (mg : Str → Option Value) (base : Heap) (C : CXT) (k : Nat) (f : Addr) (fd : FuncData) (ps : List Str) (sp : Sp) : Prop where
  len : ∀ vs H Q E, sp vs H Q E → vs.length = ps.length
  run : ∀ (A : Around) (outer : List Env) (s : Shared) (H : Hp) (args : Args) (us : List Value) (vs : List V) (Q : VK) (E : XK), RG k A → Env0 P w K mg base A outer s H → BindsTo s fd args (ps.zip us) → Vals vs us → sp vs H Q E →
    codeAny (model P w) A (.call (.ref f) args) (CR C outer P w H s Q E) s
theorem FnG.mono {P : Program} {w : World} {K : PySem.W.Frag} {mg : Str → Option Value} {base : Heap} {C : CXT} {j k : Nat} {f : Addr} {fd : FuncData} {ps : List Str} {sp : Sp} (F : FnG P w K mg base C j f fd ps sp) (h : j ≤ k) : FnG P w K mg base C k f fd ps sp :=
  ⟨F.len, fun A outer s H args us vs Q E hr => F.run A outer s H args us vs Q E (hr.mono h)⟩
section
variable {X : Cx} {C : CXT} {k : Nat} {f : Addr} {fd : FuncData} {ps : List Str} {sp : Sp} {dvs : List V} {ds : List Value} {E : XK} {x : Str} {p pos : Pos} {e : Expr} {es : List Expr} {t : L2.TA}
end
theorem fnG_of {C : CXT} {P : Program} {w : World} {K : PySem.W.Frag} {mg : Str → Option Value} {base : Heap} {k : Nat} {f : Addr} {name qual : Str} {params : Arguments} {body : List Stmt} {scope : Scope} {dV kV doc pm cdv ct oc : Value} {an od : Option Addr} {osl : Array (Option Value)} {N ps : List Str} {sp : Sp}
    (lk : K.lookup f = some ⟨oc, od, .func (PySem.W.fnOf name qual params body scope dV kV doc pm an cdv ct), osl⟩) (hcd : PySem.W.codeIn K cdv qual = true) (S : FnScope N ps scope) (hlen : ∀ vs H Q E, sp vs H Q E → vs.length = ps.length)
    (hb : ∀ (A : Around) (outer : List Env) (s : Shared) (H : Hp) (vs : List V) (Q : VK) (E : XK), RG k (A.deeper (envOfC qual scope s.heap.objs.size f cdv)) → sp vs H Q E →
      ∃ t, PSs (cxOf C P w K mg base N qual scope f cdv A outer s H E) body t ∧ t { nx := fun _ H' => Q .non H', rt := Q } (start N vs) H) : FnG P w K mg base C (k + 1) f (PySem.W.fnOf name qual params body scope dV kV doc pm an cdv ct) ps sp := by
  refine ⟨hlen, fun A outer s H args us vs Q E g e0 bd rv hsp => ?_⟩
  have kept : ∀ {b : Addr} {o : Obj}, base.get? b = some o → s.heap.get? b = some o := fun e => (e0.bs _ _ e).1
  have Kin : K.In s.heap := e0.mod.kin.keeps fun b o e => kept e
  refine codeAny_call_function g.r.depth (Kin _ _ lk) rfl S.co S.gen rfl (PySem.W.codeRec_of Kin hcd) (bd _ _ _ _ (wpAny_newFunctionEnv_cells S.kind (fun ⟨n, v⟩ hy => ?_) fun env he s1 x => ?_))
  · exact (S.par n (List.of_mem_zip hy).1).imp id fun q => ⟨q, PySem.W.cellsFrom_some _ _ _ (.inl q)⟩
  · cases he
    obtain ⟨t, pt, ht⟩ := hb A outer s H vs Q E (g.deeper _) hsp
    have I0 := inv_start (CX := C) (qual := qual) (f := f) (cd := cdv) (E := E) S g.r.hd e0 (hlen _ _ _ _ hsp) rv x
    refine ⟨(e0.mod.nolimit.keeps fun b o e => kept e).keeps x.toInCall.keep, codeAny_func (wpAny_mono (pt.run [] s1 (start N vs) H _ I0 ht) (fun fl z hz => ?_) fun e z hz => hz)⟩
    match fl, hz with
    | .ret u, ⟨v, σ', H', J, rv', q⟩ => exact ⟨v, H', J.os, J.bare, J.base, J.hok, rv', q⟩
    | .next, ⟨σ', H', J, q⟩ => exact ⟨V.non, H', J.os, J.bare, J.base, J.hok, rfl, q⟩
    | .brk, ⟨_, _, _, q⟩ => exact False.elim q
    | .cont, ⟨_, _, _, q⟩ => exact False.elim q
theorem callerG {k : Nat} (h : Room k callerA) : RG k callerA := ⟨h, rfl⟩
section
variable {P : Program} {w : World} {K : PySem.W.Frag} {mg mb : Str → Option Value} {C : CXT} {k : Nat} {fa a : Addr} {fd : FuncData} {x : Str} {sp : Sp} {s : Shared} {vs : List Value} {ns : List Int}
end
end Mn
namespace Mn
open PySem PySem.Spec PyProof.Rows L2
@[irreducible] def oth {α : Type} (o : Option α) (F : α → Prop) : Prop := match o with | some x => F x | none => False
theorem oth_some {α : Type} {o : Option α} {x : α} {F : α → Prop} (h : o = some x) (q : F x) : oth o F := by
  unfold oth
  subst h
  exact q
theorem oth_of {α : Type} {o : Option α} {F : α → Prop} (h : oth o F) : ∃ x, o = some x ∧ F x := by
  unfold oth at h
  cases o with
  | none => exact h.elim
  | some x => exact ⟨x, rfl, h⟩
inductive D where
  | non | bl (b : Bool) | int (i : Int) | str (s : Str) | tup (xs : List D) | lst (xs : List D) | ref (a : Addr) | dct (ks : List Key) (vs : List D) | frz (xs : List D) | clo (f : Addr) (ws : List V) (xs : List D) | exn (a : Addr) (dx : Option Addr) (ns : List Str) (xs : List D) | fn (x : Str) | ins (c : Str) (ns : List Str) (xs : List D) | mrk (c : Str) (ns : List Str) | mrd (lk : Bool) (ks : List Key) | dkl (ks : List Key) (vs : List D)
abbrev Ms := Addr → Prop
abbrev CH := Addr → Option (List D)
def FrzL (K : PySem.W.Frag) (H : Hp) (a : Addr) (xs : List V) : Prop := (∃ o, H a = some (.frz o (.lst xs))) ∨
  ∃ (o : Obj) (its : Array Value) (n : Nat), K.lookup a = some o ∧ o.cls = .type "list" ∧ o.dict = none ∧ o.data = .seq its n ∧ its.size ≤ sizeLine ∧ Vals xs its.toList
theorem FrzL.sq {K : PySem.W.Frag} {H : Hp} {a : Addr} {xs : List V} (h : FrzL K H a xs) : SqL K H a xs := by
  rcases h with ⟨o, h⟩ | h
  · exact .inl (.inr ⟨o, h⟩)
  · exact .inr h
def FnVal (K : PySem.W.Frag) (H : Hp) (f : Addr) : Prop := (∃ o fd c, H f = some (.frz o (.own f)) ∧ o.data = .func fd ∧ fd.code = .ref c ∧ H c = some (LamX.CodeO c fd.qualname)) ∨ K.lookup f ≠ none
def XFs (H : Hp) (dx : Option Addr) (ns : List Str) (vs : List V) : Prop := (dx = none ∧ ns = [] ∧ vs = []) ∨ ∃ p fs, dx = some p ∧ H p = some (.xd fs) ∧ fs.map (·.1) = ns ∧ fs.map (·.2) = vs
mutual
def Rep (K : PySem.W.Frag) (H : Hp) (m : Ms) : D → V → Prop
  | .non, v => v = .non
  | .bl b, v => v = .bl b
  | .int i, v => v = .int i
  | .str s, v => v = .str s
  | .tup xs, v => ∃ p vs, v = .ref p ∧ SqT K H p vs ∧ RepL K H m xs vs
  | .lst xs, v => ∃ p vs, v = .ref p ∧ ¬ m p ∧ H p = some (.lst vs) ∧ RepL K H m xs vs
  | .ref a, v => v = .ref a
  | .dct ks ds, v => ∃ p vs, v = .ref p ∧ ¬ m p ∧ H p = some (.dK (ks.zip vs)) ∧ ks.length = vs.length ∧ RepL K H m ds vs
  | .frz xs, v => ∃ p vs, v = .ref p ∧ FrzL K H p vs ∧ RepL K H m xs vs
  | .clo f ws xs, v => v = .ref f ∧ FnVal K H f ∧ RepL K H m xs ws
  | .exn a dx ns xs, v => v = .ref a ∧ ∃ vs, XFs H dx ns vs ∧ RepL K H m xs vs
  | .fn x, v => v = .ref (He.ga K x)
  | .ins c ns xs, v => ∃ p dx vs, v = .ref p ∧ ¬ m p ∧ H p = some (.ins (He.ga K c) dx (ns.zip vs)) ∧ ns.length = vs.length ∧ RepL K H m xs vs
  | .mrk _ _, _ => False
  | .mrd _ _, _ => False
  | .dkl ks ds, v => ∃ p o vs, v = .ref p ∧ ¬ m p ∧ H p = some (.frz o (.dK (ks.zip vs))) ∧ ks.length = vs.length ∧ RepL K H m ds vs
def RepL (K : PySem.W.Frag) (H : Hp) (m : Ms) : List D → List V → Prop
  | [], vs => vs = []
  | d :: ds, vs => ∃ v r, vs = v :: r ∧ Rep K H m d v ∧ RepL K H m ds r
end
def NT : HO → Prop
  | .tbl _ => False
  | _ => True
theorem nt_of {o : HO} (h : ∀ ps, o ≠ .tbl ps) : NT o := by cases o <;> first | trivial | exact (h _ rfl).elim
theorem nt_ne {o : HO} (h : NT o) : ∀ ps, o ≠ .tbl ps := fun ps z => by subst z; exact h
structure Stp (H : Hp) (m : Ms) (H' : Hp) (m' : Ms) : Prop where
  keep : ∀ p o, H p = some o → NT o → ¬ m p → H' p = some o
  grow : ∀ p, m' p → m p ∨ H p = none
  live : ∀ p o, H p = some o → H' p ≠ none
theorem Stp.refl {H : Hp} {m : Ms} : Stp H m H m := ⟨fun _ _ h _ _ => h, fun _ h => .inl h, fun p o h => by rw [h]; simp⟩
theorem Stp.trans {H H1 H2 : Hp} {m m1 m2 : Ms} (a : Stp H m H1 m1) (b : Stp H1 m1 H2 m2) : Stp H m H2 m2 := by
  refine ⟨fun p o h t n => ?_, fun p h => ?_, fun p o h => ?_⟩
  · refine b.keep p o (a.keep p o h t n) t fun z => ?_
    rcases a.grow p z with y | y
    · exact n y
    · rw [h] at y; cases y
  · rcases b.grow p h with y | y
    · exact a.grow p y
    · by_cases hm : m p
      · exact .inl hm
      · cases e : H p with
        | none => exact .inr rfl
        | some o => exact absurd y (a.live p o e)
  · cases e : H1 p with
    | none => exact absurd e (a.live p o h)
    | some u => exact b.live p u e
def IsMut : HO → Prop
  | .lst _ => True
  | .ins _ _ _ => True
  | .dK _ => True
  | .frz _ (.dK _) => True
  | .frz _ (.frz _ _) => True
  | _ => False
def MutOk (H : Hp) (m : Ms) : Prop := ∀ a, m a → ∃ o, H a = some o ∧ IsMut o
theorem sqt_step {K : PySem.W.Frag} {H H' : Hp} {m m' : Ms} {p : Addr} {vs : List V} (mo : MutOk H m) (s : Stp H m H' m') (h : SqT K H p vs) : SqT K H' p vs := by
  rcases h with (h | ⟨o, h⟩) | h
  · exact .inl (.inl (s.keep _ _ h trivial fun z => by obtain ⟨w, e, im⟩ := mo _ z; rw [h] at e; cases e; exact im))
  · exact .inl (.inr ⟨o, s.keep _ _ h trivial fun z => by obtain ⟨w, e, im⟩ := mo _ z; rw [h] at e; cases e; exact im⟩)
  · exact .inr h
theorem ls_step {H H' : Hp} {m m' : Ms} {p : Addr} {u : HO} (s : Stp H m H' m') (n : ¬ m p) (h : H p = some u) (t : NT u := by trivial) : H' p = some u ∧ ¬ m' p := by
  refine ⟨s.keep _ _ h t n, fun z => ?_⟩
  rcases s.grow p z with y | y
  · exact n y
  · rw [h] at y; cases y
theorem FnVal.mono {K : PySem.W.Frag} {H H' : Hp} {m m' : Ms} {f : Addr} (mo : MutOk H m) (s : Stp H m H' m') (h : FnVal K H f) : FnVal K H' f := by
  rcases h with ⟨o, fd, c, e1, e2, e3, e4⟩ | h
  · refine .inl ⟨o, fd, c, s.keep _ _ e1 trivial fun z => ?_, e2, e3, s.keep _ _ e4 (nt_of fun ps z => by unfold LamX.CodeO at z; cases z) fun z => ?_⟩
    · obtain ⟨w, e, im⟩ := mo _ z
      rw [e1] at e; cases e; exact im
    · obtain ⟨w, e, im⟩ := mo _ z
      rw [e4] at e
      unfold LamX.CodeO at e
      cases e
      exact im
  · exact .inr h
theorem XFs.mono {H H' : Hp} {m m' : Ms} {dx : Option Addr} {ns : List Str} {vs : List V} (mo : MutOk H m) (s : Stp H m H' m') (h : XFs H dx ns vs) : XFs H' dx ns vs := by
  rcases h with h | ⟨p, fs, e1, e2, e3⟩
  · exact .inl h
  · refine .inr ⟨p, fs, e1, s.keep _ _ e2 trivial fun z => ?_, e3⟩
    obtain ⟨w, e, im⟩ := mo _ z
    rw [e2] at e; cases e; exact im
mutual
theorem Rep.mono {K : PySem.W.Frag} {H H' : Hp} {m m' : Ms} (mo : MutOk H m) (s : Stp H m H' m') : ∀ (d : D) (v : V), Rep K H m d v → Rep K H' m' d v
  | .non, v, h => by unfold Rep at h ⊢; exact h
  | .bl _, v, h => by unfold Rep at h ⊢; exact h
  | .int _, v, h => by unfold Rep at h ⊢; exact h
  | .str _, v, h => by unfold Rep at h ⊢; exact h
  | .tup xs, v, h => by
    unfold Rep at h ⊢
    obtain ⟨p, vs, e, q, r⟩ := h
    exact ⟨p, vs, e, sqt_step mo s q, RepL.mono mo s xs vs r⟩
  | .lst xs, v, h => by
    unfold Rep at h ⊢
    obtain ⟨p, vs, e, n, q, r⟩ := h
    obtain ⟨q', n'⟩ := ls_step s n q
    exact ⟨p, vs, e, n', q', RepL.mono mo s xs vs r⟩
  | .ref _, v, h => by unfold Rep at h ⊢; exact h
  | .dct ks ds, v, h => by
    unfold Rep at h ⊢
    obtain ⟨p, vs, e, n, q, l, r⟩ := h
    refine ⟨p, vs, e, fun z => ?_, s.keep _ _ q trivial n, l, RepL.mono mo s ds vs r⟩
    rcases s.grow p z with y | y
    · exact n y
    · rw [q] at y; cases y
  | .frz xs, v, h => by
    unfold Rep at h ⊢
    obtain ⟨p, vs, e, q, r⟩ := h
    refine ⟨p, vs, e, ?_, RepL.mono mo s xs vs r⟩
    rcases q with ⟨o, q⟩ | q
    · exact .inl ⟨o, s.keep _ _ q trivial fun z => by obtain ⟨w, e, im⟩ := mo _ z; rw [q] at e; cases e; exact im⟩
    · exact .inr q
  | .clo f ws xs, v, h => by
    unfold Rep at h ⊢
    exact ⟨h.1, h.2.1.mono mo s, RepL.mono mo s xs ws h.2.2⟩
  | .exn a dx ns xs, v, h => by
    unfold Rep at h ⊢
    obtain ⟨e, vs, q, r⟩ := h
    exact ⟨e, vs, q.mono mo s, RepL.mono mo s xs vs r⟩
  | .fn _, v, h => by unfold Rep at h ⊢; exact h
  | .ins c ns xs, v, h => by
    unfold Rep at h ⊢
    obtain ⟨p, dx, vs, e, n, q, l, r⟩ := h
    obtain ⟨q', n'⟩ := ls_step s n q
    exact ⟨p, dx, vs, e, n', q', l, RepL.mono mo s xs vs r⟩
  | .mrk _ _, v, h => by unfold Rep at h; exact h.elim
  | .mrd _ _, v, h => by unfold Rep at h; exact h.elim
  | .dkl ks ds, v, h => by
    unfold Rep at h ⊢
    obtain ⟨p, o, vs, e, n, q, l, r⟩ := h
    obtain ⟨q', n'⟩ := ls_step s n q
    exact ⟨p, o, vs, e, n', q', l, RepL.mono mo s ds vs r⟩
theorem RepL.mono {K : PySem.W.Frag} {H H' : Hp} {m m' : Ms} (mo : MutOk H m) (s : Stp H m H' m') : ∀ (ds : List D) (vs : List V), RepL K H m ds vs → RepL K H' m' ds vs
  | [], vs, h => by unfold RepL at h ⊢; exact h
  | d :: ds, vs, h => by
    unfold RepL at h ⊢
    obtain ⟨v, r, e, h1, h2⟩ := h
    exact ⟨v, r, e, Rep.mono mo s d v h1, RepL.mono mo s ds r h2⟩
end
theorem RepL.length {K : PySem.W.Frag} {H : Hp} {m : Ms} : ∀ {ds : List D} {vs : List V}, RepL K H m ds vs → ds.length = vs.length
  | [], vs, h => by unfold RepL at h; subst h; rfl
  | d :: ds, vs, h => by
    unfold RepL at h
    obtain ⟨v, r, e, _, h2⟩ := h
    subst e
    rw [List.length_cons, List.length_cons, RepL.length h2]
theorem RepL.get {K : PySem.W.Frag} {H : Hp} {m : Ms} : ∀ {ds : List D} {vs : List V} {i : Nat} {d : D}, RepL K H m ds vs → ds[i]? = some d → ∃ v, vs[i]? = some v ∧ Rep K H m d v
  | [], vs, i, d, h, e => by simp at e
  | d :: ds, vs, 0, d', h, e => by
    unfold RepL at h
    obtain ⟨v, r, rfl, h1, _⟩ := h
    simp at e; subst e
    exact ⟨v, rfl, h1⟩
  | d :: ds, vs, i + 1, d', h, e => by
    unfold RepL at h
    obtain ⟨v, r, rfl, _, h2⟩ := h
    obtain ⟨w, e1, e2⟩ := RepL.get (i := i) h2 (by simpa using e)
    exact ⟨w, by simpa using e1, e2⟩
theorem RepL.append {K : PySem.W.Frag} {H : Hp} {m : Ms} : ∀ {ds es : List D} {vs ws : List V}, RepL K H m ds vs → RepL K H m es ws → RepL K H m (ds ++ es) (vs ++ ws)
  | [], es, vs, ws, h, g => by unfold RepL at h; subst h; exact g
  | d :: ds, es, vs, ws, h, g => by
    unfold RepL at h
    obtain ⟨v, r, rfl, h1, h2⟩ := h
    show RepL K H m (d :: (ds ++ es)) (v :: (r ++ ws))
    unfold RepL
    exact ⟨v, _, rfl, h1, RepL.append h2 g⟩
theorem RepL.one {K : PySem.W.Frag} {H : Hp} {m : Ms} {d : D} {v : V} (h : Rep K H m d v) : RepL K H m [d] [v] := by
  unfold RepL; exact ⟨v, [], rfl, h, by unfold RepL; rfl⟩
theorem RepL.set {K : PySem.W.Frag} {H : Hp} {m : Ms} {d : D} {v : V} (h : Rep K H m d v) : ∀ {ds : List D} {vs : List V} (i : Nat), RepL K H m ds vs → RepL K H m (ds.set i d) (vs.set i v)
  | [], vs, i, g => by unfold RepL at g; subst g; simpa using (show RepL K H m [] [] by unfold RepL; rfl)
  | d' :: ds, vs, 0, g => by
    unfold RepL at g
    obtain ⟨w, r, rfl, _, h2⟩ := g
    show RepL K H m (d :: ds) (v :: r)
    unfold RepL
    exact ⟨v, r, rfl, h, h2⟩
  | d' :: ds, vs, i + 1, g => by
    unfold RepL at g
    obtain ⟨w, r, rfl, h1, h2⟩ := g
    show RepL K H m (d' :: ds.set i d) (w :: r.set i v)
    unfold RepL
    exact ⟨w, _, rfl, h1, RepL.set h i h2⟩
theorem RepL.drop {K : PySem.W.Frag} {H : Hp} {m : Ms} : ∀ {ds : List D} {vs : List V} (n : Nat), RepL K H m ds vs → RepL K H m (ds.drop n) (vs.drop n)
  | ds, vs, 0, h => h
  | [], vs, n + 1, h => by unfold RepL at h; subst h; simpa using (show RepL K H m [] [] by unfold RepL; rfl)
  | d :: ds, vs, n + 1, h => by
    unfold RepL at h
    obtain ⟨v, r, rfl, _, h2⟩ := h
    exact RepL.drop n h2
theorem RepL.take {K : PySem.W.Frag} {H : Hp} {m : Ms} : ∀ {ds : List D} {vs : List V} (n : Nat), RepL K H m ds vs → RepL K H m (ds.take n) (vs.take n)
  | ds, vs, 0, h => by simpa using (show RepL K H m [] [] by unfold RepL; rfl)
  | [], vs, n + 1, h => by unfold RepL at h; subst h; simpa using (show RepL K H m [] [] by unfold RepL; rfl)
  | d :: ds, vs, n + 1, h => by
    unfold RepL at h
    obtain ⟨v, r, rfl, h1, h2⟩ := h
    show RepL K H m (d :: ds.take n) (v :: r.take n)
    unfold RepL
    exact ⟨v, _, rfl, h1, RepL.take n h2⟩
theorem RepL.reverse {K : PySem.W.Frag} {H : Hp} {m : Ms} : ∀ {ds : List D} {vs : List V}, RepL K H m ds vs → RepL K H m ds.reverse vs.reverse
  | [], vs, h => by unfold RepL at h; subst h; simpa using (show RepL K H m [] [] by unfold RepL; rfl)
  | d :: ds, vs, h => by
    unfold RepL at h
    obtain ⟨v, r, rfl, h1, h2⟩ := h
    rw [List.reverse_cons, List.reverse_cons]
    exact RepL.append (RepL.reverse h2) (RepL.one h1)
theorem RepL.nil {K : PySem.W.Frag} {H : Hp} {m : Ms} : RepL K H m [] [] := by unfold RepL; rfl
theorem RepL.cons {K : PySem.W.Frag} {H : Hp} {m : Ms} {d : D} {ds : List D} {v : V} {vs : List V} (h : Rep K H m d v) (g : RepL K H m ds vs) : RepL K H m (d :: ds) (v :: vs) := by unfold RepL; exact ⟨v, vs, rfl, h, g⟩
def tabD (K : PySem.W.Frag) (q : Addr × Obj) : Option (Addr × Str) := match q.2.data with
  | .func fd => (match fd.code with
    | .ref c => if PySem.W.codeHdIn K c (He.tabOf K c) = true then some (He.tabOf K c, fd.qualname ++ ".<locals>." ++ "<lambda>") else none
    | _ => none)
  | _ => none
def tabsL (K : PySem.W.Frag) : List (Addr × Str) := K.filterMap (tabD K)
theorem tabs_put {T : List (Addr × Str)} {H : Hp} {a : Addr} {ws : HO} (t : LamX.Tabs T H) (h : H a = none ∨ ∃ o, H a = some o ∧ IsMut o) : LamX.Tabs T (upd H a ws) := fun p hp => by
  obtain ⟨ps, h1, h2, h3⟩ := t p hp
  have ne : ∀ b o, H b = some o → ¬ IsMut o → b ≠ a := fun b o e n z => by
    subst z
    rcases h with h | ⟨vs, h, im⟩
    · rw [e] at h; cases h
    · rw [e] at h; cases h; exact n im
  refine ⟨ps, by rw [upd_ne (ne _ _ h1 fun z => z)]; exact h1, h2, fun pos cv hc => ?_⟩
  obtain ⟨c, e1, e2⟩ := h3 pos cv hc
  exact ⟨c, e1, by rw [upd_ne (ne _ _ e2 fun z => by unfold LamX.CodeO at z; exact z)]; exact e2⟩
def Held (K : PySem.W.Frag) (H : Hp) (m : Ms) (a : Addr) : List D → Prop
  | .mrk c ns :: es => ∃ dx vs, H a = some (.ins (He.ga K c) dx (ns.zip vs)) ∧ ns.length = vs.length ∧ RepL K H m es vs
  | .mrd false ks :: es => ∃ vs, H a = some (.dK (ks.zip vs)) ∧ ks.length = vs.length ∧ RepL K H m es vs
  | .mrd true ks :: es => ∃ o vs, H a = some (.frz o (.dK (ks.zip vs))) ∧ ks.length = vs.length ∧ RepL K H m es vs
  | ds => ∃ vs, H a = some (.lst vs) ∧ RepL K H m ds vs
theorem held_lst {K : PySem.W.Frag} {H : Hp} {m : Ms} {a : Addr} {ds : List D} {vs : List V} (e : H a = some (.lst vs)) (r : RepL K H m ds vs) : Held K H m a ds := by
  unfold Held
  split
  · unfold RepL at r; obtain ⟨_, _, _, z, _⟩ := r; unfold Rep at z; exact z.elim
  · unfold RepL at r; obtain ⟨_, _, _, z, _⟩ := r; unfold Rep at z; exact z.elim
  · unfold RepL at r; obtain ⟨_, _, _, z, _⟩ := r; unfold Rep at z; exact z.elim
  · exact ⟨vs, e, r⟩
theorem Held.map {K : PySem.W.Frag} {H H' : Hp} {m m' : Ms} {a : Addr} {ds : List D} (h : Held K H m a ds) (k : ∀ o, H a = some o → IsMut o → H' a = some o) (g : ∀ (es : List D) (vs : List V), RepL K H m es vs → RepL K H' m' es vs) : Held K H' m' a ds := by
  unfold Held at h ⊢
  split at h
  · obtain ⟨dx, vs, e, l, r⟩ := h; exact ⟨dx, vs, k _ e trivial, l, g _ _ r⟩
  · obtain ⟨vs, e, l, r⟩ := h; exact ⟨vs, k _ e trivial, l, g _ _ r⟩
  · obtain ⟨o, vs, e, l, r⟩ := h; exact ⟨o, vs, k _ e trivial, l, g _ _ r⟩
  · obtain ⟨vs, e, r⟩ := h; exact ⟨vs, k _ e trivial, g _ _ r⟩
theorem Held.obj {K : PySem.W.Frag} {H : Hp} {m : Ms} {a : Addr} {ds : List D} (h : Held K H m a ds) : ∃ o, H a = some o ∧ IsMut o := by
  unfold Held at h
  split at h
  · obtain ⟨dx, vs, e, _⟩ := h; exact ⟨_, e, trivial⟩
  · obtain ⟨vs, e, _⟩ := h; exact ⟨_, e, trivial⟩
  · obtain ⟨o, vs, e, _⟩ := h; exact ⟨_, e, trivial⟩
  · obtain ⟨vs, e, _⟩ := h; exact ⟨_, e, trivial⟩
def hL (hc : CH) (a : Addr) : Option (List D) := match hc a with
  | some (.mrk _ _ :: _) => none
  | some (.mrd _ _ :: _) => none
  | o => o
def noMk : List D → Bool
  | .mrk _ _ :: _ => false
  | .mrd _ _ :: _ => false
  | _ => true
theorem hL_of {hc : CH} {a : Addr} {ds : List D} (e : hc a = some ds) (n : noMk ds = true) : hL hc a = some ds := by
  unfold hL
  rw [e]
  unfold noMk at n
  split at n
  · cases n
  · cases n
  · rename_i h1 h2
    split
    · rename_i e2; cases e2; exact (h1 _ _ _ rfl).elim
    · rename_i e2; cases e2; exact (h2 _ _ _ rfl).elim
    · rfl
theorem hL_some {hc : CH} {a : Addr} {ds : List D} (e : hL hc a = some ds) : hc a = some ds ∧ noMk ds = true := by
  unfold hL at e
  split at e
  · cases e
  · cases e
  · rename_i h1 h2
    refine ⟨e, ?_⟩
    unfold noMk
    split
    · rename_i c ns es; exact (h1 c ns es e).elim
    · rename_i l ks es; exact (h2 l ks es e).elim
    · rfl
theorem held_of {K : PySem.W.Frag} {H : Hp} {m : Ms} {a : Addr} {ds : List D} (h : Held K H m a ds) (n : noMk ds = true) : ∃ vs, H a = some (.lst vs) ∧ RepL K H m ds vs := by
  unfold Held at h
  split at h
  · cases n
  · cases n
  · cases n
  · exact h
structure Wd (K : PySem.W.Frag) (H : Hp) (hc : CH) (m : Ms) : Prop where
  tab : LamX.Tabs (tabsL K) H
  mu : MutOk H m
  hm : ∀ a ds, hc a = some ds → m a
  heap : ∀ a ds, hc a = some ds → Held K H m a ds
theorem Wd.heapL {K : PySem.W.Frag} {H : Hp} {hc : CH} {m : Ms} (w : Wd K H hc m) {a : Addr} {ds : List D} (e : hL hc a = some ds) : ∃ vs, H a = some (.lst vs) ∧ RepL K H m ds vs := by
  obtain ⟨e1, n⟩ := hL_some e
  exact held_of (w.heap a ds e1) n
structure En where
  H : Hp
  hc : CH
  m : Ms
structure Ex (K : PySem.W.Frag) (en : En) (H : Hp) (hc : CH) (m : Ms) : Prop extends Wd K H hc m where
  emut : MutOk en.H en.m
  ehm : ∀ a ds, en.hc a = some ds → en.m a
  keep : ∀ p o, en.H p = some o → NT o → en.hc p = none → H p = some o
  grow : ∀ p, m p → en.m p ∨ en.H p = none
  hold : ∀ p, en.m p → en.hc p = none → m p
  hgrow : ∀ p ds, hc p = some ds → en.hc p ≠ none ∨ en.H p = none
  live : ∀ p o, en.H p = some o → H p ≠ none
theorem Ex.refl {K : PySem.W.Frag} {H : Hp} {hc : CH} {m : Ms} (w : Wd K H hc m) : Ex K ⟨H, hc, m⟩ H hc m :=
  ⟨w, w.mu, w.hm, fun _ _ h _ _ => h, fun _ h => .inl h, fun _ h _ => h, fun p ds h => .inl (by show hc p ≠ none; rw [h]; simp), fun p o h => by have h' : H p = some o := h; rw [h']; simp⟩
theorem Ex.trans {K : PySem.W.Frag} {en : En} {H H' : Hp} {hc hc' : CH} {m m' : Ms} (a : Ex K en H hc m) (b : Ex K ⟨H, hc, m⟩ H' hc' m') : Ex K en H' hc' m' := by
  have nh : ∀ p o, en.H p = some o → en.hc p = none → hc p = none := fun p o h n => by
    cases e : hc p with
    | none => rfl
    | some ds =>
      rcases a.hgrow p ds e with y | y
      · exact absurd n y
      · rw [h] at y; cases y
  refine ⟨b.toWd, a.emut, a.ehm, fun p o h t n => ?_, fun p h => ?_, fun p h n => ?_, fun p ds h => ?_, fun p o h => ?_⟩
  · exact b.keep p o (a.keep p o h t n) t (nh p o h n)
  · rcases b.grow p h with y | y
    · exact a.grow p y
    · cases e : en.H p with
      | none => exact .inr rfl
      | some o => exact absurd y (a.live p o e)
  · refine b.hold p (a.hold p h n) ?_
    obtain ⟨vs, e, _⟩ := a.emut p h
    exact nh p _ e n
  · rcases b.hgrow p ds h with y | y
    · cases e : hc p with
      | none => exact absurd e y
      | some ds' => exact a.hgrow p ds' e
    · cases e : en.H p with
      | none => exact .inr rfl
      | some o =>
        cases e2 : en.hc p with
        | none => exact absurd (show H p = none from y) (a.live p o e)
        | some ds => exact .inl (by simp)
  · cases e : H p with
    | none => exact absurd e (a.live p o h)
    | some u => exact b.live p u e
theorem Ex.stp {K : PySem.W.Frag} {en : En} {H : Hp} {hc : CH} {m : Ms} (a : Ex K en H hc m) : Stp en.H en.m H m := by
  refine ⟨fun p o h t n => a.keep p o h t ?_, a.grow, a.live⟩
  cases e : en.hc p with
  | none => rfl
  | some ds => exact absurd (a.ehm p ds e) n
inductive Sl where
  | un | val (d : D) | own (ds : List D)
structure Rs (K : PySem.W.Frag) (en : En) (σ : L2.St) (H : Hp) (sc : List Sl) (hc : CH) (m : Ms) : Prop extends Ex K en H hc m where
  slot : ∀ (i : Nat) (d : D), sc[i]? = some (Sl.val d) → ∃ v, σ[i]? = some (some v) ∧ Rep K H m d v
  own : ∀ (i : Nat) (ds : List D), sc[i]? = some (Sl.own ds) → ∃ (p : Addr) (vs : List V), σ[i]? = some (some (V.ref p)) ∧ m p ∧ en.H p = none ∧ hc p = none ∧ H p = some (.lst vs) ∧ RepL K H m ds vs
  sep : ∀ (i j : Nat) (ds es : List D) (p : Addr), sc[i]? = some (Sl.own ds) → sc[j]? = some (Sl.own es) → σ[i]? = some (some (V.ref p)) → σ[j]? = some (some (V.ref p)) → i = j
  len : sc.length = σ.length
end Mn
namespace Mn
open PySem PySem.Spec PyProof.Rows L2
theorem upd_some {H : Hp} {a p : Addr} {o u : HO} (e : H p = some o) : upd H a u p ≠ none := by
  by_cases h : p = a
  · subst h; rw [upd_same]; simp
  · rw [upd_ne h, e]; simp
theorem Stp.same {H H' : Hp} {m : Ms} (h : Same H H') : Stp H m H' m := ⟨fun p o e _ _ => h p o e, fun _ h => .inl h, fun p o e => by rw [h p o e]; simp⟩
theorem Wd.same {K : PySem.W.Frag} {H H' : Hp} {hc : CH} {m : Ms} (w : Wd K H hc m) (h : Same H H') : Wd K H' hc m :=
  ⟨w.tab.ext h, fun a z => let ⟨vs, e, im⟩ := w.mu a z; ⟨vs, h _ _ e, im⟩, w.hm, fun a ds e => (w.heap a ds e).map (fun o e _ => h _ _ e) fun es vs r => RepL.mono w.mu (.same h) _ _ r⟩
theorem Ex.same {K : PySem.W.Frag} {H H' : Hp} {hc : CH} {m : Ms} (w : Wd K H hc m) (h : Same H H') : Ex K ⟨H, hc, m⟩ H' hc m :=
  ⟨w.same h, w.mu, w.hm, fun p o e _ _ => h p o e, fun _ h => .inl h, fun _ h _ => h, fun p ds e => .inl (by show hc p ≠ none; rw [e]; simp), fun p o e => by rw [h p o e]; simp⟩
theorem Rs.call {K : PySem.W.Frag} {en : En} {σ : L2.St} {H H' : Hp} {sc : List Sl} {hc hc' : CH} {m m' : Ms} (r : Rs K en σ H sc hc m) (x : Ex K ⟨H, hc, m⟩ H' hc' m') : Rs K en σ H' sc hc' m' := by
  have st := x.stp
  refine ⟨r.toEx.trans x, fun i d e => ?_, fun i ds e => ?_, r.sep, r.len⟩
  · obtain ⟨v, e1, q⟩ := r.slot i d e
    exact ⟨v, e1, Rep.mono r.mu st d v q⟩
  · obtain ⟨p, vs, e1, mp, ep, hp, eH, q⟩ := r.own i ds e
    refine ⟨p, vs, e1, x.hold p mp hp, ep, ?_, x.keep p _ eH trivial hp, RepL.mono r.mu st _ _ q⟩
    cases e2 : hc' p with
    | none => rfl
    | some es =>
      rcases x.hgrow p es e2 with y | y
      · exact absurd hp y
      · have y' : H p = none := y
        rw [eH] at y'; cases y'
theorem Rs.same {K : PySem.W.Frag} {en : En} {σ : L2.St} {H H' : Hp} {sc : List Sl} {hc : CH} {m : Ms} (r : Rs K en σ H sc hc m) (h : Same H H') : Rs K en σ H' sc hc m := r.call (Ex.same r.toWd h)
structure Exn where
  cls : Str
  fs : List (Str × D)
abbrev XP := Exn → List Sl → CH → Prop
def RepX (X : Cx) (H : Hp) (m : Ms) (x : Exn) (cls : Value) (d : Option Addr) : Prop :=
  X.mg x.cls = some cls ∧ ((x.fs = [] ∧ d = none) ∨ ∃ dx fs, d = some dx ∧ H dx = some (.xd fs) ∧ fs.map (·.1) = x.fs.map (·.1) ∧ RepL X.K H m (x.fs.map (·.2)) (fs.map (·.2)))
def XOk (X : Cx) (W : WX) (en : En) (E : XP) : Prop := ∀ x sc hc, E x sc hc → ∀ cls d σ H m, Rs X.K en σ H sc hc m → RepX X H m x cls d → W cls d σ H
structure RT (k : Nat) (X : Cx) (W : WX) : Prop where
  g : RG k X.A
  t : Takes X W
  p : PassesOwn (model X.prog X.w) X.A X.env X.xe
abbrev W0 : WX := fun _ _ _ _ => False
theorem takes0 {X : Cx} : Takes X W0 := fun u s' ⟨_, _, _, _, _, _, _, _, _, _, _, _, _, _, _, _, w⟩ => w.elim
theorem RT.mono {j k : Nat} {X : Cx} {W : WX} (x : RT k X W) (h : j ≤ k) : RT j X W := ⟨x.g.mono h, x.t, x.p⟩
theorem RT.b {k : Nat} {X : Cx} {W : WX} (x : RT k X W) {s : Shared} {H : Hp} {sc : Scope} {ce : Env} {fp : List Addr} : RT k (X.blk s H sc ce fp) W0 := ⟨x.g, takes0, .never⟩
section
variable {X : Cx} {W : WX} {k : Nat} {f : Addr} {fd : FuncData} {ps : List Str} {sp : Sp} {dvs : List V} {ds : List Value} {x : Str} {p pos : Pos} {e : Expr} {es : List Expr} {t : L2.TA}
theorem runX {pins : List (Addr × Obj)} {σ : L2.St} {H : Hp} {s : Shared} {Q : VK} {us : List Value} {vs : List V} (F : FnG X.prog X.w X.K X.mg X.base (L2.CX X.prog X.w) k f fd ps sp) (g : RT k X W) (hb : Binds X.K fd ps ds) (hd : Vals dvs ds) (I : Inv X pins σ H s)
    (r : Vals vs us) (h : sp (vs ++ dvs) H Q fun cls d H' => W cls d σ H') : wpAny (model X.prog X.w) X.A (call (.ref f) us) (EP X pins σ Q) X.xe s :=
  have r2 : Vals (vs ++ dvs) (us ++ ds) := r.append hd
  wpAny_call (codeAny_mono (F.run X.A X.stack s H ⟨us, []⟩ (us ++ ds) (vs ++ dvs) Q _ g.g I.env0 (hb s us I.kIn (by rw [← r2.length]; exact F.len _ _ _ _ h)) r2 h) fun z s' hq => match z, hq with
    | .error e, hq => g.t e s' (XE.of_call I (fun _ _ _ z => z) hq)
    | .ok (.ret u), hq => I.after hq
    | .ok .next, hq => False.elim hq
    | .ok .brk, hq => False.elim hq
    | .ok .cont, hq => False.elim hq)
theorem pe_callX (F : FnG X.prog X.w X.K X.mg X.base (L2.CX X.prog X.w) k f fd ps sp) (g : RT k X W) (hg : Gl X x) (hm : X.mg x = some (.ref f)) (hk : PySem.W.keepIn X.K (.ref f) = true) (hb : Binds X.K fd ps ds) (hd : Vals dvs ds) (ha : PA X (e :: es) t)
    (hdb : (x == ("__debug__" : Str)) = false) (he : starEach (e :: es) X.env = (false, eval e X.env) :: starEach es X.env) (hpl : (backTo pos (starEach es X.env)).any (·.1) = false) : PE X (.Call (.Name x p) (e :: es) [] pos) (fun σ H Q => t σ H fun vs H1 => sp (vs ++ dvs) H1 Q fun cls d H' => W cls d σ H') :=
  ⟨fun pins s σ H Q I h => wpAny_Call_Name_kw (ld_glob I hg hm (PySem.W.callWith_K (h₀ := X.base) I.ok.mod.kin hk (thn (ha.run pos pins s σ H _ I h) fun us s1 ⟨vs, H1, I1, r, q⟩ => ⟨I1.kIn, runX F g hb hd I1 r q⟩) he hpl) hdb)⟩
end
abbrev CEx := XP → List Sl → CH → (D → CH → Prop) → Prop
abbrev CTx := XP → List Sl → CH → (Bool → CH → Prop) → Prop
abbrev CAx := XP → List Sl → CH → (List D → CH → Prop) → Prop
def RepW (K : PySem.W.Frag) (H : Hp) (m : Ms) : D → V → Prop
  | .lst ds, v => ∃ p vs, v = .ref p ∧ H p = some (.lst vs) ∧ RepL K H m ds vs
  | d, v => Rep K H m d v
theorem Rep.w {K : PySem.W.Frag} {H : Hp} {m : Ms} : ∀ {d : D} {v : V}, Rep K H m d v → RepW K H m d v
  | .non, _, h => h
  | .bl _, _, h => h
  | .int _, _, h => h
  | .str _, _, h => h
  | .tup _, _, h => h
  | .lst _, _, h => by
    unfold Rep at h
    obtain ⟨p, vs, e, _, q, r⟩ := h
    exact ⟨p, vs, e, q, r⟩
  | .ref _, _, h => h
  | .dct _ _, _, h => h
  | .frz _, _, h => h
  | .clo _ _ _, _, h => h
  | .exn _ _ _ _, _, h => h
  | .fn _, _, h => h
  | .ins _ _ _, _, h => h
  | .mrk _ _, _, h => h
  | .mrd _ _, _, h => h
  | .dkl _ _, _, h => h
def RepB (K : PySem.W.Frag) (σ : L2.St) (sc : List Sl) (H : Hp) (m : Ms) (d : D) (v : V) : Prop :=
  Rep K H m d v ∨ ∃ (i : Nat) (ds : List D), sc[i]? = some (Sl.own ds) ∧ d = .lst ds ∧ σ[i]? = some (some v)
theorem RepB.w {K : PySem.W.Frag} {en : En} {σ : L2.St} {sc : List Sl} {H : Hp} {hc : CH} {m : Ms} {d : D} {v : V} (r : Rs K en σ H sc hc m) (h : RepB K σ sc H m d v) : RepW K H m d v := by
  rcases h with h | ⟨i, ds, e1, rfl, e2⟩
  · exact h.w
  · obtain ⟨p, vs, e3, _, _, _, e4, q⟩ := r.own i ds e1
    rw [e2] at e3
    cases e3
    exact ⟨p, vs, rfl, e4, q⟩
theorem RepB.mono {K : PySem.W.Frag} {en : En} {σ : L2.St} {sc : List Sl} {H H' : Hp} {hc : CH} {m m' : Ms} {d : D} {v : V} (r : Rs K en σ H sc hc m) (s : Stp H m H' m') (h : RepB K σ sc H m d v) : RepB K σ sc H' m' d v := by
  rcases h with h | h
  · exact .inl (Rep.mono r.mu s d v h)
  · exact .inr h
def LE (X : Cx) (W : WX) (c : CEx) : TE := fun σ H Q => ∃ en sc hc m E P, Rs X.K en σ H sc hc m ∧ c E sc hc P ∧ XOk X W en E ∧
  ∀ d hc', P d hc' → ∀ v H' m', Ex X.K ⟨H, hc, m⟩ H' hc' m' → Rep X.K H' m' d v → Q v H'
def LB (X : Cx) (W : WX) (c : CEx) : TE := fun σ H Q => ∃ en sc hc m E P, Rs X.K en σ H sc hc m ∧ c E sc hc P ∧ XOk X W en E ∧
  ∀ d hc', P d hc' → ∀ v H' m', Ex X.K ⟨H, hc, m⟩ H' hc' m' → RepB X.K σ sc H' m' d v → Q v H'
def LT (X : Cx) (W : WX) (c : CTx) : TT := fun σ H Q => ∃ en sc hc m E P, Rs X.K en σ H sc hc m ∧ c E sc hc P ∧ XOk X W en E ∧
  ∀ b hc', P b hc' → ∀ H' m', Ex X.K ⟨H, hc, m⟩ H' hc' m' → Q b H'
def LA (X : Cx) (W : WX) (c : CAx) : TA := fun σ H Q => ∃ en sc hc m E P, Rs X.K en σ H sc hc m ∧ c E sc hc P ∧ XOk X W en E ∧
  ∀ ds hc', P ds hc' → ∀ vs H' m', Ex X.K ⟨H, hc, m⟩ H' hc' m' → RepL X.K H' m' ds vs → Q vs H'
structure CE (X : Cx) (W : WX) (e : Expr) (c : CEx) : Prop where
  p : PE X e (LE X W c)
structure CB (X : Cx) (W : WX) (e : Expr) (c : CEx) : Prop where
  p : PE X e (LB X W c)
structure CT (X : Cx) (W : WX) (e : Expr) (c : CTx) : Prop where
  p : PT X e (LT X W c)
structure CA (X : Cx) (W : WX) (es : List Expr) (c : CAx) : Prop where
  p : PA X es (LA X W c)
theorem pe_wk {X : Cx} {e : Expr} {t t' : TE} (h : PE X e t) (g : ∀ σ H Q, t' σ H Q → t σ H Q) : PE X e t' := ⟨fun pins s σ H Q I q => h.run pins s σ H Q I (g σ H Q q)⟩
theorem pt_wk {X : Cx} {e : Expr} {t t' : TT} (h : PT X e t) (g : ∀ σ H Q, t' σ H Q → t σ H Q) : PT X e t' := ⟨fun pins s σ H Q I q => h.run pins s σ H Q I (g σ H Q q)⟩
theorem pa_wk {X : Cx} {e : List Expr} {t t' : TA} (h : PA X e t) (g : ∀ σ H Q, t' σ H Q → t σ H Q) : PA X e t' := ⟨fun pos pins s σ H Q I q => h.run pos pins s σ H Q I (g σ H Q q)⟩
section
variable {X : Cx} {W : WX} {a b e : Expr} {es : List Expr} {ca cb c : CEx} {pos : Pos}
theorem CE.bo (h : CE X W e c) : CB X W e c := ⟨pe_wk h.p fun σ H Q ⟨en, sc, hc, m, E, P, r, k, xo, fin⟩ => ⟨en, sc, hc, m, E, P, r, k, xo, fun d hc' p v H' m' x q => fin d hc' p v H' m' x (.inl q)⟩⟩
def look : List Sl → Nat → Option D
  | [], _ => none
  | .val d :: _, 0 => some d
  | _ :: _, 0 => none
  | _ :: r, n + 1 => look r n
def lookO : List Sl → Nat → Option (List D)
  | [], _ => none
  | .own d :: _, 0 => some d
  | _ :: _, 0 => none
  | _ :: r, n + 1 => lookO r n
theorem look_get : ∀ {sc : List Sl} {i : Nat} {d : D}, look sc i = some d → sc[i]? = some (Sl.val d)
  | [], _, _, h => by cases h
  | .val d' :: r, 0, d, h => by cases h; rfl
  | .un :: r, 0, d, h => by cases h
  | .own _ :: r, 0, d, h => by cases h
  | x :: r, n + 1, d, h => by
    have h' : look r n = some d := by cases x <;> exact h
    simpa using look_get h'
def cV (i : Nat) : CEx := fun _ sc hc P => match look sc i with | some d => P d hc | none => False
def cC (d : D) : CEx := fun _ _ hc P => P d hc
def cO (i : Nat) : CEx := fun _ sc hc P => match lookO sc i with | some ds => P (.lst ds) hc | none => False
theorem ce_v (i : Nat) {x : Str} (hN : X.N[i]? = some x := by rfl) (hv : Vis X.env.scope x := by first | exact Or.inl rfl | exact Or.inr (Or.inl rfl) | exact Or.inr (Or.inr rfl)) (hd : (x == ("__debug__" : Str)) = false := by decide)
    (hcd : (x == ("__classdict__" : Str)) = false := by decide) : CE X W (.Name x pos) (cV i) := by
  refine ⟨pe_wk (pv i hN hv hd hcd) fun σ H Q ⟨en, sc, hc, m, E, P, r, k, xo, fin⟩ => ?_⟩
  unfold cV at k
  split at k
  · rename_i d e
    obtain ⟨v, e1, q⟩ := r.slot i d (look_get e)
    exact ⟨v, e1, fin d hc k v H m (.refl r.toWd) q⟩
  · exact k.elim
theorem ce_c {d : D} {v : V} (h : PE X e (tC v)) (hr : ∀ H m, Rep X.K H m d v) : CE X W e (cC d) :=
  ⟨pe_wk h fun σ H Q ⟨en, sc, hc, m, E, P, r, k, xo, fin⟩ => fin d hc k v H m (.refl r.toWd) (hr H m)⟩
theorem rep_int {K : PySem.W.Frag} {H : Hp} {m : Ms} {i : Int} : Rep K H m (.int i) (.int i) := by unfold Rep; rfl
theorem rep_bl {K : PySem.W.Frag} {H : Hp} {m : Ms} {i : Bool} : Rep K H m (.bl i) (.bl i) := by unfold Rep; rfl
theorem rep_non {K : PySem.W.Frag} {H : Hp} {m : Ms} : Rep K H m .non .non := by unfold Rep; rfl
theorem rep_str {K : PySem.W.Frag} {H : Hp} {m : Ms} {i : Str} : Rep K H m (.str i) (.str i) := by unfold Rep; rfl
theorem ce_i {i : Int} {j : Nat} : CE X W (.Constant (.int i) j pos) (cC (.int i)) := ce_c pe_int fun _ _ => rep_int
theorem ce_b {i : Bool} {j : Nat} : CE X W (.Constant (.bool i) j pos) (cC (.bl i)) := ce_c pe_bl fun _ _ => rep_bl
theorem ce_n {j : Nat} : CE X W (.Constant .none j pos) (cC .non) := ce_c pe_non fun _ _ => rep_non
theorem ce_s {i : Str} {j : Nat} : CE X W (.Constant (.str i) j pos) (cC (.str i)) := ce_c pe_str fun _ _ => rep_str
theorem ce_g {x : Str} {d : D} {v : V} {u : Value} (hg : Gl X x) (hm : X.mg x = some u) (r : RelV v u) (hr : ∀ H m, Rep X.K H m d v) (hd : (x == ("__debug__" : Str)) = false := by decide) : CE X W (.Name x pos) (cC d) := ce_c (pe_glob hg hm r hd) hr
abbrev O1 := D → CH → (D → Prop) → Prop
abbrev O2 := D → D → CH → (D → Prop) → Prop
abbrev On := List D → CH → (D → Prop) → Prop
def LV1 (K : PySem.W.Frag) (f : O1) : V → Hp → VK → Prop := fun x H Q => ∃ hc m dx P, Wd K H hc m ∧ RepW K H m dx x ∧ f dx hc P ∧ ∀ d, P d → ∀ v H', Same H H' → Rep K H' m d v → Q v H'
def LV2 (K : PySem.W.Frag) (f : O2) : R2 := fun x y H Q => ∃ hc m dx dy P, Wd K H hc m ∧ RepW K H m dx x ∧ RepW K H m dy y ∧ f dx dy hc P ∧ ∀ d, P d → ∀ v H', Same H H' → Rep K H' m d v → Q v H'
def cOp (f : O2) (ca cb : CEx) : CEx := fun E sc hc P => ca E sc hc fun x hc1 => cb E sc hc1 fun y hc2 => f x y hc2 fun d => P d hc2
def cUn (f : O1) (ca : CEx) : CEx := fun E sc hc P => ca E sc hc fun x hc1 => f x hc1 fun d => P d hc1
theorem op_lift {f : O2} {σ : L2.St} {H : Hp} {Q : VK} (h : LE X W (cOp f ca cb) σ H Q) : LB X W ca σ H fun x H1 => LB X W cb σ H1 fun y H2 => LV2 X.K f x y H2 Q := by
  obtain ⟨en, sc, hc, m, E, P, r, c, xo, fin⟩ := h
  refine ⟨en, sc, hc, m, E, _, r, c, xo, fun dx hc1 hp v H1 m1 x1 q1 => ⟨en, sc, hc1, m1, E, _, r.call x1, hp, xo, fun dy hc2 hp2 w H2 m2 x2 q2 => ⟨hc2, m2, dx, dy, _, x2.toWd, (q1.mono (r.call x1) x2.stp).w ((r.call x1).call x2), q2.w ((r.call x1).call x2), hp2, fun d pd v' H' sm q => ?_⟩⟩⟩
  exact fin d hc2 pd v' H' m2 (x1.trans (x2.trans (Ex.same x2.toWd sm))) q
theorem un_lift {f : O1} {σ : L2.St} {H : Hp} {Q : VK} (h : LE X W (cUn f ca) σ H Q) : LB X W ca σ H fun x H1 => LV1 X.K f x H1 Q := by
  obtain ⟨en, sc, hc, m, E, P, r, c, xo, fin⟩ := h
  refine ⟨en, sc, hc, m, E, _, r, c, xo, fun dx hc1 hp v H1 m1 x1 q1 => ⟨hc1, m1, dx, _, x1.toWd, q1.w (r.call x1), hp, fun d pd v' H' sm q => ?_⟩⟩
  exact fin d hc1 pd v' H' m1 (x1.trans (Ex.same x1.toWd sm)) q
theorem ce_op {op : Operator} {f : O2} (ho : OpR X (binaryOp op) (LV2 X.K f)) (ha : CB X W a ca) (hb : CB X W b cb) : CE X W (.BinOp a op b pos) (cOp f ca cb) :=
  ⟨pe_wk (pe_op ho ha.p hb.p) fun σ H Q h => op_lift h⟩
theorem ce_un {op : UnaryOp} {f : O1} (ho : UnR X (unaryOp op) (LV1 X.K f)) (ha : CB X W a ca) : CE X W (.UnaryOp op a pos) (cUn f ca) :=
  ⟨pe_wk (pe_un ho ha.p) fun σ H Q h => un_lift h⟩
theorem ce_cmp {op : CmpOp} {f : O2} (ho : OpR X (compareOp op) (LV2 X.K f)) (ha : CB X W a ca) (hb : CB X W b cb) (hm : behindInMarks op b = false := by first | exact nomark _ | rfl) : CE X W (.Compare a [op] [b] pos) (cOp f ca cb) :=
  ⟨pe_wk (pe_cmpR ho ha.p hb.p hm) fun σ H Q h => op_lift h⟩
def cT (c : CEx) : CTx := fun E sc hc P => c E sc hc fun d hc' => match d with | .bl b => P b hc' | _ => False
theorem t_lift {σ : L2.St} {H : Hp} {Q : Bool → Hp → Prop} (h : LT X W (cT c) σ H Q) : LE X W c σ H fun x H1 => ∃ k, x = .bl k ∧ Q k H1 := by
  obtain ⟨en, sc, hc, m, E, P, r, k, xo, fin⟩ := h
  refine ⟨en, sc, hc, m, E, _, r, k, xo, fun d hc1 hp v H1 m1 x1 q1 => ?_⟩
  cases d <;> try exact hp.elim
  unfold Rep at q1
  exact ⟨_, q1, fin _ hc1 hp H1 m1 x1⟩
theorem ct_cmp {op : CmpOp} {f : O2} (ho : OpR X (compareOp op) (LV2 X.K f)) (ha : CB X W a ca) (hb : CB X W b cb) (hm : behindInMarks op b = false := by first | exact nomark _ | rfl) : CT X W (.Compare a [op] [b] pos) (cT (cOp f ca cb)) :=
  ⟨pt_wk (pt_cmpR ho ha.p hb.p hm) fun σ H Q h => by
    obtain ⟨en, sc, hc, m, E, P, r, c, xo, fin⟩ := t_lift h
    exact op_lift ⟨en, sc, hc, m, E, P, r, c, xo, fin⟩⟩
theorem ct_e (h : CE X W e c) (he : ∀ whole, isTrue e X.env whole = (do let v ← whole; standAt e.pos; holding [v] (truthy v)) := by intro _; rfl) : CT X W e (cT c) :=
  ⟨pt_wk (pt_val h.p he) fun σ H Q h => t_lift h⟩
end
end Mn
namespace Mn
open PySem PySem.Spec PyProof.Rows L2
theorem same_upd {H : Hp} {p : Addr} {o : HO} (h : H p = none) : Same H (upd H p o) := fun b x e => by
  rw [upd_ne (ne_of_none e h)]
  exact e
theorem rep_lst {K : PySem.W.Frag} {H : Hp} {m : Ms} {p : Addr} {ds : List D} {vs : List V} (w : MutOk H m) (n : H p = none) (r : RepL K H m ds vs) : Rep K (upd H p (.lst vs)) m (.lst ds) (.ref p) := by
  unfold Rep
  refine ⟨p, vs, rfl, fun z => ?_, upd_same, RepL.mono w (.same (same_upd n)) _ _ r⟩
  obtain ⟨vs, e, _⟩ := w p z
  rw [n] at e; cases e
theorem rep_tup {K : PySem.W.Frag} {H : Hp} {m : Ms} {p : Addr} {ds : List D} {vs : List V} (w : MutOk H m) (n : H p = none) (r : RepL K H m ds vs) : Rep K (upd H p (.tup vs)) m (.tup ds) (.ref p) := by
  unfold Rep
  exact ⟨p, vs, rfl, .inl (.inl upd_same), RepL.mono w (.same (same_upd n)) _ _ r⟩
section
variable {X : Cx}
def addD : O2
  | .int i, .int j, _, P => P (.int (i + j))
  | .str x, .str y, _, P => x.length + y.length ≤ sizeLine ∧ P (.str (x ++ y))
  | .lst xs, .lst ys, _, P => xs.length + ys.length ≤ sizeLine ∧ P (.lst (xs ++ ys))
  | .tup xs, .tup ys, _, P => xs.length + ys.length ≤ sizeLine ∧ P (.tup (xs ++ ys))
  | .ref a, .lst ys, hc, P => oth (hL hc a) fun xs => xs.length + ys.length ≤ sizeLine ∧ P (.lst (xs ++ ys))
  | .lst xs, .ref a, hc, P => oth (hL hc a) fun ys => xs.length + ys.length ≤ sizeLine ∧ P (.lst (xs ++ ys))
  | _, _, _, _ => False
theorem op_addD : OpR X (binaryOp .Add) (LV2 X.K addD) := by
  intro pins s σ H x y v u Q I rx ry h
  obtain ⟨hc, m, dx, dy, P, w, h1, h2, f, fin⟩ := h
  cases dx <;> cases dy <;> try exact f.elim
  · unfold RepW Rep at h1 h2
    subst h1; subst h2
    exact op_add pins s σ H _ _ v u Q I rx ry ⟨_, _, rfl, rfl, fin _ f _ _ (.refl H) rep_int⟩
  · unfold RepW Rep at h1 h2
    subst h1; subst h2
    exact op_add_str pins s σ H _ _ v u Q I rx ry ⟨_, _, rfl, rfl, f.1, fin _ f.2 _ _ (.refl H) rep_str⟩
  · rename_i xs ys
    unfold RepW Rep at h1 h2
    obtain ⟨p, vs, rfl, q1, r1⟩ := h1
    obtain ⟨p2, vs2, rfl, q2, r2⟩ := h2
    refine op_catA pins s σ H _ _ v u Q I rx ry ⟨p, p2, vs, vs2, rfl, rfl, q1, q2, by rw [← r1.length, ← r2.length]; exact f.1, fun e => ?_, fun _ e => ?_, fun _ _ q n => ?_⟩
    · subst e
      have := r1.length
      have e0 : xs = [] := List.length_eq_zero_iff.mp this
      subst e0
      exact fin _ f.2 _ _ (.refl H) (by unfold Rep; exact ⟨p2, vs2, rfl, q2, r2⟩)
    · subst e
      have := r2.length
      have e0 : ys = [] := List.length_eq_zero_iff.mp this
      subst e0
      exact fin _ f.2 _ _ (.refl H) (by rw [List.append_nil]; unfold Rep; exact ⟨p, vs, rfl, q1, r1⟩)
    · exact fin _ f.2 _ _ (same_upd n) (rep_tup w.mu n (r1.append r2))
  · rename_i xs ys
    unfold RepW at h1 h2
    obtain ⟨p, vs, rfl, q1, r1⟩ := h1
    obtain ⟨p2, vs2, rfl, q2, r2⟩ := h2
    exact op_cat pins s σ H _ _ v u Q I rx ry ⟨p, p2, vs, vs2, rfl, rfl, q1, q2, by rw [← r1.length, ← r2.length]; exact f.1, fun q n => fin _ f.2 _ _ (same_upd n) (rep_lst w.mu n (r1.append r2))⟩
  · unfold RepW at h1 h2
    unfold Rep at h2
    obtain ⟨p, vs, rfl, q1, r1⟩ := h1
    subst h2
    obtain ⟨zs, e, lz, f⟩ := oth_of f
    obtain ⟨ws, q2, r2⟩ := w.heapL e
    exact op_cat pins s σ H _ _ v u Q I rx ry ⟨p, _, vs, ws, rfl, rfl, q1, q2, by rw [← r1.length, ← r2.length]; exact lz, fun q n => fin _ f _ _ (same_upd n) (rep_lst w.mu n (r1.append r2))⟩
  · unfold RepW at h1 h2
    unfold Rep at h1
    obtain ⟨p, vs, rfl, q1, r1⟩ := h2
    subst h1
    obtain ⟨zs, e, lz, f⟩ := oth_of f
    obtain ⟨ws, q2, r2⟩ := w.heapL e
    exact op_cat pins s σ H _ _ v u Q I rx ry ⟨_, p, ws, vs, rfl, rfl, q2, q1, by rw [← r1.length, ← r2.length]; exact lz, fun q n => fin _ f _ _ (same_upd n) (rep_lst w.mu n (r2.append r1))⟩
def intD (C : Int → Int → Prop) (g : Int → Int → Int) : O2
  | .int i, .int j, _, P => C i j ∧ P (.int (g i j))
  | _, _, _, _ => False
def intD0 (g : Int → Int → Int) : O2
  | .int i, .int j, _, P => P (.int (g i j))
  | _, _, _, _ => False
theorem op_intD {f : Value → Value → Sem Value} {C : Int → Int → Prop} {g : Int → Int → Int} (ho : OpR X f (rI C fun i j => .int (g i j))) : OpR X f (LV2 X.K (intD C g)) := by
  intro pins s σ H x y v u Q I rx ry h
  obtain ⟨hc, m, dx, dy, P, w, h1, h2, f, fin⟩ := h
  cases dx <;> cases dy <;> try exact f.elim
  unfold RepW Rep at h1 h2
  subst h1; subst h2
  exact ho pins s σ H _ _ v u Q I rx ry ⟨_, _, rfl, rfl, f.1, fin _ f.2 _ _ (.refl H) rep_int⟩
theorem op_intD0 {f : Value → Value → Sem Value} {g : Int → Int → Int} (ho : OpR X f (rI0 fun i j => .int (g i j))) : OpR X f (LV2 X.K (intD0 g)) := by
  intro pins s σ H x y v u Q I rx ry h
  obtain ⟨hc, m, dx, dy, P, w, h1, h2, f, fin⟩ := h
  cases dx <;> cases dy <;> try exact f.elim
  unfold RepW Rep at h1 h2
  subst h1; subst h2
  exact ho pins s σ H _ _ v u Q I rx ry ⟨_, _, rfl, rfl, fin _ f _ _ (.refl H) rep_int⟩
abbrev subD : O2 := intD0 fun i j => i - j
theorem op_subD : OpR X (binaryOp .Sub) (LV2 X.K subD) := op_intD0 op_sub
def MulOk (i j : Int) : Prop := IntMulOk i j
theorem mulOk {i j : Int} (a b : Nat) (ha : i.natAbs < 2 ^ a) (hb : j.natAbs < 2 ^ b) (h : a + b ≤ 134217728) : MulOk i j := (mulx_ok ha hb h).ok
theorem mulOk_l {i j : Int} (h : -(2 ^ 64) < i ∧ i < 2 ^ 64) : MulOk i j := CMul.ok (.inl h)
theorem mulOk_r {i j : Int} (h : -(2 ^ 64) < j ∧ j < 2 ^ 64) : MulOk i j := CMul.ok (.inr h)
theorem op_mulI : OpR X (binaryOp .Mult) (rI MulOk fun i j => .int (i * j)) := opI fun _ _ _ _ _ _ _ hc q => mul_int q hc
def mulD : O2
  | .int i, .int j, _, P => MulOk i j ∧ P (.int (i * j))
  | .lst xs, .int k, _, P => (-(2 ^ 63) ≤ k ∧ k < 2 ^ 63 ∧ xs.length * k.toNat ≤ sizeLine) ∧ P (.lst (List.replicate k.toNat xs).flatten)
  | .tup xs, .int k, _, P => (xs ≠ [] ∧ 2 ≤ k ∧ k ≤ 1000 ∧ xs.length ≤ 1000) ∧ P (.tup (List.replicate k.toNat xs).flatten)
  | _, _, _, _ => False
theorem RepL.rep {K : PySem.W.Frag} {H : Hp} {m : Ms} {ds : List D} {vs : List V} (h : RepL K H m ds vs) : ∀ n : Nat, RepL K H m (List.replicate n ds).flatten (List.replicate n vs).flatten
  | 0 => RepL.nil
  | n + 1 => by
    rw [List.replicate_succ, List.replicate_succ, List.flatten_cons, List.flatten_cons]
    exact h.append (RepL.rep h n)
theorem op_mulD : OpR X (binaryOp .Mult) (LV2 X.K mulD) := by
  intro pins s σ H x y v u Q I rx ry h
  obtain ⟨hc, m, dx, dy, P, w, h1, h2, f, fin⟩ := h
  cases dx <;> cases dy <;> try exact f.elim
  · unfold RepW Rep at h1 h2
    subst h1; subst h2
    exact op_mulI pins s σ H _ _ v u Q I rx ry ⟨_, _, rfl, rfl, f.1, fin _ f.2 _ _ (.refl H) rep_int⟩
  · unfold RepW Rep at h1 h2
    obtain ⟨p, vs, rfl, q1, r1⟩ := h1
    subst h2
    exact op_repT pins s σ H _ _ v u Q I rx ry ⟨p, _, vs, rfl, rfl, q1, fun e => f.1.1 (by
      have l := r1.length
      rw [e] at l
      exact List.length_eq_zero_iff.mp l), f.1.2.1, f.1.2.2.1, by rw [← r1.length]; exact f.1.2.2.2, fun q n => fin _ f.2 _ _ (same_upd n) (rep_tup w.mu n (r1.rep _))⟩
  · unfold RepW at h1 h2
    unfold Rep at h2
    obtain ⟨p, vs, rfl, q1, r1⟩ := h1
    subst h2
    exact op_rep pins s σ H _ _ v u Q I rx ry ⟨p, _, vs, rfl, rfl, q1, f.1.1, f.1.2.1, by rw [← r1.length]; exact f.1.2.2, fun q n => fin _ f.2 _ _ (same_upd n) (rep_lst w.mu n (r1.rep _))⟩
def DivOk (i j : Int) : Prop := 0 < j ∧ Builtin.divisionGoesByPylong i j = false
theorem divOk {i j : Int} (b : Nat) (h : 0 < j) (hb : j.natAbs < 2 ^ b) (h9 : b ≤ 9000) : DivOk i j := by
  by_cases hb0 : b = 0
  · subst hb0
    have : j.natAbs < 1 := by simpa using hb
    omega
  · exact ⟨h, PyProof.noPylong_of_log2 (Nat.lt_of_lt_of_le (PySem.Flt.log2_lt_of (by omega) hb) h9)⟩
theorem op_fdivI : OpR X (binaryOp .FloorDiv) (rI DivOk fun i j => .int (i / j)) := opI fun i j _ _ _ _ _ hc q => by
  have h1 : (0 : Int) < j := hc.1
  exact floordiv_int (by omega) (by rw [Int.fdiv_eq_ediv_of_nonneg i (by omega)]; exact q) (.inl hc.2)
abbrev fdivD : O2 := intD DivOk fun i j => i / j
theorem op_fdivD : OpR X (binaryOp .FloorDiv) (LV2 X.K fdivD) := op_intD op_fdivI
abbrev modD : O2 := intD (fun _ j => 0 < j) fun i j => i % j
theorem op_modD : OpR X (binaryOp .Mod) (LV2 X.K modD) := op_intD op_mod
abbrev powD : O2 := intD CPow fun i j => i ^ j.toNat
theorem op_powD : OpR X (binaryOp .Pow) (LV2 X.K powD) := op_intD op_pow
abbrev shlD : O2 := intD CShl fun i j => i * 2 ^ j.toNat
theorem op_shlD : OpR X (binaryOp .LShift) (LV2 X.K shlD) := op_intD op_shlW
abbrev shrD : O2 := intD (fun _ j => 0 ≤ j) fun i j => i / 2 ^ j.toNat
abbrev andD : O2 := intD0 Builtin.bitAnd
abbrev orD : O2 := intD0 Builtin.bitOr
theorem op_orD : OpR X (binaryOp .BitOr) (LV2 X.K orD) := op_intD0 op_or
def negD : O1
  | .int i, _, P => P (.int (-i))
  | _, _, _ => False
theorem un_negD : UnR X (unaryOp .USub) (LV1 X.K negD) := by
  intro pins s σ H x v Q I rx h
  obtain ⟨hc, m, dx, P, w, h1, f, fin⟩ := h
  cases dx <;> try exact f.elim
  unfold RepW Rep at h1
  subst h1
  exact un_neg pins s σ H _ v Q I rx ⟨_, rfl, fin _ f _ _ (.refl H) rep_int⟩
end
end Mn
namespace Mn
open PySem PySem.Spec PyProof.Rows L2
mutual
def toPy : D → Option PyData
  | .non => some .none
  | .bl b => some (.bool b)
  | .int i => some (.int i)
  | .str s => some (.str s)
  | .tup xs => (toPyL xs).map .tuple
  | .lst xs => (toPyL xs).map .list
  | .ref _ => none
  | .dct _ _ => none
  | .frz _ => none
  | .clo _ _ _ => none
  | .exn _ _ _ _ => none
  | .fn _ => none
  | .ins _ _ _ => none
  | .mrk _ _ => none
  | .mrd _ _ => none
  | .dkl _ _ => none
def toPyL : List D → Option (List PyData)
  | [] => some []
  | d :: ds => match toPy d, toPyL ds with
    | some p, some ps => some (p :: ps)
    | _, _ => none
end
mutual
theorem dp_of {K : PySem.W.Frag} {H : Hp} {m : Ms} : ∀ (d : D) (v : V) (p : PyData), toPy d = some p → Rep K H m d v → Dp K H v p
  | .non, v, p, e, h => by unfold toPy at e; unfold Rep at h; cases e; subst h; exact .non
  | .bl _, v, p, e, h => by unfold toPy at e; unfold Rep at h; cases e; subst h; exact .bl _
  | .int _, v, p, e, h => by unfold toPy at e; unfold Rep at h; cases e; subst h; exact .int _
  | .str _, v, p, e, h => by unfold toPy at e; unfold Rep at h; cases e; subst h; exact .str _
  | .tup xs, v, p, e, h => by
    unfold toPy at e; unfold Rep at h
    obtain ⟨a, vs, rfl, q, r⟩ := h
    cases e2 : toPyL xs with
    | none => rw [e2] at e; cases e
    | some ps => rw [e2] at e; cases e; exact .tup q (dpl_of xs vs ps e2 r)
  | .lst xs, v, p, e, h => by
    unfold toPy at e; unfold Rep at h
    obtain ⟨a, vs, rfl, _, q, r⟩ := h
    cases e2 : toPyL xs with
    | none => rw [e2] at e; cases e
    | some ps => rw [e2] at e; cases e; exact .lst (.of q) (dpl_of xs vs ps e2 r)
  | .ref _, v, p, e, h => by unfold toPy at e; cases e
  | .dct _ _, v, p, e, h => by unfold toPy at e; cases e
  | .frz _, v, p, e, h => by unfold toPy at e; cases e
  | .clo _ _ _, v, p, e, h => by unfold toPy at e; cases e
  | .exn _ _ _ _, v, p, e, h => by unfold toPy at e; cases e
  | .fn _, v, p, e, h => by unfold toPy at e; cases e
  | .ins _ _ _, v, p, e, h => by unfold toPy at e; cases e
  | .mrk _ _, v, p, e, h => by unfold toPy at e; cases e
  | .mrd _ _, v, p, e, h => by unfold toPy at e; cases e
  | .dkl _ _, v, p, e, h => by unfold toPy at e; cases e
theorem dpl_of {K : PySem.W.Frag} {H : Hp} {m : Ms} : ∀ (ds : List D) (vs : List V) (ps : List PyData), toPyL ds = some ps → RepL K H m ds vs → DpAll K H vs ps
  | [], vs, ps, e, h => by unfold toPyL at e; unfold RepL at h; cases e; subst h; exact .nil
  | d :: ds, vs, ps, e, h => by
    unfold toPyL at e; unfold RepL at h
    obtain ⟨v, r, rfl, h1, h2⟩ := h
    cases e1 : toPy d with
    | none => rw [e1] at e; cases e
    | some p =>
      cases e2 : toPyL ds with
      | none => rw [e1, e2] at e; cases e
      | some ps' => rw [e1, e2] at e; cases e; exact .cons (dp_of d v p e1 h1) (dpl_of ds r ps' e2 h2)
end
theorem dpw_of {K : PySem.W.Frag} {H : Hp} {m : Ms} : ∀ (d : D) (v : V) (p : PyData), toPy d = some p → RepW K H m d v → Dp K H v p
  | .lst xs, v, p, e, h => by
    unfold toPy at e; unfold RepW at h
    obtain ⟨a, vs, rfl, q, r⟩ := h
    cases e2 : toPyL xs with
    | none => rw [e2] at e; cases e
    | some ps => rw [e2] at e; cases e; exact .lst (.of q) (dpl_of xs vs ps e2 r)
  | .non, v, p, e, h => dp_of (m := m) _ v p e h
  | .bl _, v, p, e, h => dp_of (m := m) _ v p e h
  | .int _, v, p, e, h => dp_of (m := m) _ v p e h
  | .str _, v, p, e, h => dp_of (m := m) _ v p e h
  | .tup xs, v, p, e, h => dp_of (m := m) _ v p e h
  | .ref _, v, p, e, h => by unfold toPy at e; cases e
  | .dct _ _, v, p, e, h => by unfold toPy at e; cases e
  | .frz _, v, p, e, h => by unfold toPy at e; cases e
  | .clo _ _ _, v, p, e, h => by unfold toPy at e; cases e
  | .exn _ _ _ _, v, p, e, h => by unfold toPy at e; cases e
  | .fn _, v, p, e, h => by unfold toPy at e; cases e
  | .ins _ _ _, v, p, e, h => by unfold toPy at e; cases e
  | .mrk _ _, v, p, e, h => by unfold toPy at e; cases e
  | .mrd _ _, v, p, e, h => by unfold toPy at e; cases e
  | .dkl _ _, v, p, e, h => by unfold toPy at e; cases e
def eqG (neg : Bool) (x y : D) (P : D → Prop) : Prop := ∃ p q, toPy x = some p ∧ toPy y = some q ∧ SeqAt.shaped p = true ∧ SeqAt.shaped q = true ∧ P (.bl (if neg then !PyData.eqv p q else PyData.eqv p q))
def eqD : O2 := fun x y _ P => match x, y with
  | .int i, .int j => P (.bl (decide (i = j)))
  | .str a, .str b => P (.bl (decide (a = b)))
  | .non, .non => P (.bl true)
  | x, y => eqG false x y P
def neD : O2 := fun x y _ P => match x, y with
  | .int i, .int j => P (.bl (!decide (i = j)))
  | .str a, .str b => P (.bl (!decide (a = b)))
  | .non, .non => P (.bl false)
  | x, y => eqG true x y P
def cmpD (f : Int → Int → Bool) : O2
  | .int i, .int j, _, P => P (.bl (f i j))
  | _, _, _, _ => False
abbrev ltD : O2 := cmpD fun i j => decide (i < j)
abbrev leD : O2 := cmpD fun i j => decide (i ≤ j)
abbrev gtD : O2 := cmpD fun i j => decide (j < i)
abbrev geD : O2 := cmpD fun i j => decide (j ≤ i)
def isND : O2
  | .non, .non, _, P => P (.bl true)
  | .ref _, .non, _, P => P (.bl false)
  | .lst _, .non, _, P => P (.bl false)
  | .tup _, .non, _, P => P (.bl false)
  | .dct _ _, .non, _, P => P (.bl false)
  | .ins _ _ _, .non, _, P => P (.bl false)
  | .int _, .non, _, P => P (.bl false)
  | .bl _, .non, _, P => P (.bl false)
  | .str _, .non, _, P => P (.bl false)
  | _, _, _, _ => False
def notND : O2
  | .non, .non, _, P => P (.bl false)
  | .ref _, .non, _, P => P (.bl true)
  | .lst _, .non, _, P => P (.bl true)
  | .tup _, .non, _, P => P (.bl true)
  | .dct _ _, .non, _, P => P (.bl true)
  | .ins _ _ _, .non, _, P => P (.bl true)
  | .int _, .non, _, P => P (.bl true)
  | .bl _, .non, _, P => P (.bl true)
  | .str _, .non, _, P => P (.bl true)
  | _, _, _, _ => False
theorem repw_nn {K : PySem.W.Frag} {H : Hp} {m : Ms} : ∀ {d : D} {v : V}, RepW K H m d v → d ≠ .non → v ≠ .non
  | .non, _, _, hd => absurd rfl hd
  | .bl _, v, h, _ => by unfold RepW Rep at h; rw [h]; exact fun e => nomatch e
  | .int _, v, h, _ => by unfold RepW Rep at h; rw [h]; exact fun e => nomatch e
  | .str _, v, h, _ => by unfold RepW Rep at h; rw [h]; exact fun e => nomatch e
  | .tup _, v, h, _ => by unfold RepW Rep at h; obtain ⟨p, vs, e, _⟩ := h; rw [e]; exact fun e => nomatch e
  | .lst _, v, h, _ => by unfold RepW at h; obtain ⟨p, vs, e, _⟩ := h; rw [e]; exact fun e => nomatch e
  | .ref _, v, h, _ => by unfold RepW Rep at h; rw [h]; exact fun e => nomatch e
  | .dct _ _, v, h, _ => by unfold RepW Rep at h; obtain ⟨p, vs, e, _⟩ := h; rw [e]; exact fun e => nomatch e
  | .frz _, v, h, _ => by unfold RepW Rep at h; obtain ⟨p, vs, e, _⟩ := h; rw [e]; exact fun e => nomatch e
  | .clo _ _ _, v, h, _ => by unfold RepW Rep at h; rw [h.1]; exact fun e => nomatch e
  | .exn _ _ _ _, v, h, _ => by unfold RepW Rep at h; rw [h.1]; exact fun e => nomatch e
  | .fn _, v, h, _ => by unfold RepW Rep at h; rw [h]; exact fun e => nomatch e
  | .ins _ _ _, v, h, _ => by unfold RepW Rep at h; obtain ⟨p, dx, vs, e, _⟩ := h; rw [e]; exact fun e => nomatch e
  | .mrk _ _, v, h, _ => by unfold RepW Rep at h; exact h.elim
  | .mrd _ _, v, h, _ => by unfold RepW Rep at h; exact h.elim
  | .dkl _ _, v, h, _ => by unfold RepW Rep at h; obtain ⟨p, o, vs, e, _⟩ := h; rw [e]; exact fun e => nomatch e
section
variable {X : Cx}
theorem op_cmpD {f : Value → Value → Sem Value} {g : Int → Int → Bool} (ho : OpR X f (rI0 fun i j => .bl (g i j))) : OpR X f (LV2 X.K (cmpD g)) := by
  intro pins s σ H x y v u Q I rx ry h
  obtain ⟨hc, m, dx, dy, P, w, h1, h2, f, fin⟩ := h
  cases dx <;> cases dy <;> try exact f.elim
  unfold RepW Rep at h1 h2
  subst h1; subst h2
  exact ho pins s σ H _ _ v u Q I rx ry ⟨_, _, rfl, rfl, fin _ f _ _ (.refl H) rep_bl⟩
theorem op_ltD : OpR X (compareOp .Lt) (LV2 X.K ltD) := op_cmpD op_lt
theorem op_leD : OpR X (compareOp .LtE) (LV2 X.K leD) := op_cmpD op_le
theorem op_gtD : OpR X (compareOp .Gt) (LV2 X.K gtD) := op_cmpD op_gt
theorem op_geD : OpR X (compareOp .GtE) (LV2 X.K geD) := op_cmpD op_ge
theorem op_isND : OpR X (compareOp .Is) (LV2 X.K isND) := by
  intro pins s σ H x y v u Q I rx ry h
  obtain ⟨hc, m, dx, dy, P, w, h1, h2, f, fin⟩ := h
  have hy : dy = .non := by cases dy <;> first | rfl | (cases dx <;> exact f.elim)
  subst hy
  have e2 : y = .non := by unfold RepW Rep at h2; exact h2
  subst e2
  refine op_isN pins s σ H _ _ v u Q I rx ry ⟨rfl, ?_⟩
  by_cases hx : dx = .non
  · subst hx
    unfold RepW Rep at h1
    subst h1
    exact fin _ f _ _ (.refl H) rep_bl
  · rw [decide_eq_false (repw_nn h1 hx)]
    cases dx <;> first | exact f.elim | exact absurd rfl hx | exact fin _ f _ _ (.refl H) rep_bl
theorem eq_flat {K : PySem.W.Frag} {H : Hp} {m : Ms} {Q : VK} {P : D → Prop} {b : Bool} (fin : ∀ d, P d → ∀ v H', Same H H' → Rep K H' m d v → Q v H') (h : P (.bl b)) : Q (.bl b) H := fin _ h _ _ (.refl H) rep_bl
theorem op_eqDD (hu : X.A.units + 64 < cLine) : OpR X (compareOp .Eq) (LV2 X.K eqD) := by
  intro pins s σ H x y v u Q I rx ry h
  obtain ⟨hc, m, dx, dy, P, w, h1, h2, f, fin⟩ := h
  have gen : eqG false dx dy P → wpAny (model X.prog X.w) X.A (compareOp .Eq v u) (EP X pins σ Q) X.xe s := fun ⟨p, q, e1, e2, s1, s2, k⟩ =>
    op_eqD hu pins s σ H x y v u Q I rx ry ⟨p, q, dpw_of _ _ _ e1 h1, dpw_of _ _ _ e2 h2, s1, s2, eq_flat fin k⟩
  unfold eqD at f
  split at f
  · unfold RepW Rep at h1 h2
    subst h1; subst h2
    refine op_eq pins s σ H _ _ v u Q I rx ry ⟨rfl, ?_⟩
    rw [show decide (V.int _ = V.int _) = decide (_ = _) from decide_eq_decide.mpr ⟨fun e => V.int.inj e, fun e => congrArg V.int e⟩]
    exact eq_flat fin f
  · unfold RepW Rep at h1 h2
    subst h1; subst h2
    refine op_eq pins s σ H _ _ v u Q I rx ry ⟨rfl, ?_⟩
    rw [show decide (V.str _ = V.str _) = decide (_ = _) from decide_eq_decide.mpr ⟨fun e => V.str.inj e, fun e => congrArg V.str e⟩]
    exact eq_flat fin f
  · exact gen ⟨.none, .none, rfl, rfl, rfl, rfl, f⟩
  · exact gen f
theorem op_neDD (hu : X.A.units + 64 < cLine) : OpR X (compareOp .NotEq) (LV2 X.K neD) := by
  intro pins s σ H x y v u Q I rx ry h
  obtain ⟨hc, m, dx, dy, P, w, h1, h2, f, fin⟩ := h
  have gen : eqG true dx dy P → wpAny (model X.prog X.w) X.A (compareOp .NotEq v u) (EP X pins σ Q) X.xe s := fun ⟨p, q, e1, e2, s1, s2, k⟩ =>
    op_neD hu pins s σ H x y v u Q I rx ry ⟨p, q, dpw_of _ _ _ e1 h1, dpw_of _ _ _ e2 h2, s1, s2, eq_flat fin k⟩
  unfold neD at f
  split at f
  · unfold RepW Rep at h1 h2
    subst h1; subst h2
    refine op_ne pins s σ H _ _ v u Q I rx ry ⟨rfl, ?_⟩
    rw [show decide (V.int _ = V.int _) = decide (_ = _) from decide_eq_decide.mpr ⟨fun e => V.int.inj e, fun e => congrArg V.int e⟩]
    exact eq_flat fin f
  · unfold RepW Rep at h1 h2
    subst h1; subst h2
    refine op_ne pins s σ H _ _ v u Q I rx ry ⟨rfl, ?_⟩
    rw [show decide (V.str _ = V.str _) = decide (_ = _) from decide_eq_decide.mpr ⟨fun e => V.str.inj e, fun e => congrArg V.str e⟩]
    exact eq_flat fin f
  · exact gen ⟨.none, .none, rfl, rfl, rfl, rfl, f⟩
  · exact gen f
end
section
variable {X : Cx} {W : WX} {a b c e : Expr} {es rest : List Expr} {ca cb cc : CEx} {ta tb : CTx} {pos : Pos}
def cCh (f g : O2) (ca cb cc : CEx) : CEx := fun E sc hc P => ca E sc hc fun x hc1 => cb E sc hc1 fun y hc2 => f x y hc2 fun d => match d with
  | .bl true => cc E sc hc2 fun z hc3 => g y z hc3 fun r => P r hc3
  | .bl false => P (.bl false) hc2
  | _ => False
def cAnd (t u : CTx) : CTx := fun E sc hc P => t E sc hc fun b hc1 => if b = true then u E sc hc1 P else P false hc1
def cOr (t u : CTx) : CTx := fun E sc hc P => t E sc hc fun b hc1 => if b = true then P true hc1 else u E sc hc1 P
def cNot (t : CTx) : CTx := fun E sc hc P => t E sc hc fun b hc1 => P (!b) hc1
structure CW (X : Cx) (W : WX) (e : Expr) (c : CTx) : Prop where
  p : PW X e (LT X W c)
theorem pw_wk {X : Cx} {e : Expr} {t t' : TT} (h : PW X e t) (g : ∀ σ H Q, t' σ H Q → t σ H Q) : PW X e t' := ⟨fun wh pins s σ H Q I q => h.run wh pins s σ H Q I (g σ H Q q)⟩
theorem CW.t {e : Expr} {t : CTx} (h : CW X W e t) : CT X W e t := ⟨h.p.pt⟩
theorem and_lift {σ : L2.St} {H : Hp} {Q : Bool → Hp → Prop} (h : LT X W (cAnd ta tb) σ H Q) : tAnd (LT X W ta) (LT X W tb) σ H Q := by
  obtain ⟨en, sc, hc, m, E, P, r, c, xo, fin⟩ := h
  refine ⟨en, sc, hc, m, E, _, r, c, xo, fun b hc1 hp H1 m1 x1 => ?_⟩
  cases b with
  | true =>
    rw [if_pos rfl] at hp ⊢
    exact ⟨en, sc, hc1, m1, E, _, r.call x1, hp, xo, fun b2 hc2 hp2 H2 m2 x2 => fin b2 hc2 hp2 H2 m2 (x1.trans x2)⟩
  | false =>
    rw [if_neg Bool.false_ne_true] at hp ⊢
    exact fin _ hc1 hp H1 m1 x1
theorem or_lift {σ : L2.St} {H : Hp} {Q : Bool → Hp → Prop} (h : LT X W (cOr ta tb) σ H Q) : tOr (LT X W ta) (LT X W tb) σ H Q := by
  obtain ⟨en, sc, hc, m, E, P, r, c, xo, fin⟩ := h
  refine ⟨en, sc, hc, m, E, _, r, c, xo, fun b hc1 hp H1 m1 x1 => ?_⟩
  cases b with
  | true =>
    rw [if_pos rfl] at hp ⊢
    exact fin _ hc1 hp H1 m1 x1
  | false =>
    rw [if_neg Bool.false_ne_true] at hp ⊢
    exact ⟨en, sc, hc1, m1, E, _, r.call x1, hp, xo, fun b2 hc2 hp2 H2 m2 x2 => fin b2 hc2 hp2 H2 m2 (x1.trans x2)⟩
theorem cw_and1 (ha : CT X W a ta) : CW X W (.BoolOp .And [a] pos) ta := ⟨pw_and1 ha.p⟩
theorem cw_or1 (ha : CT X W a ta) : CW X W (.BoolOp .Or [a] pos) ta := ⟨pw_or1 ha.p⟩
theorem cw_and (ha : CT X W a ta) (hb : CW X W (.BoolOp .And (b :: rest) pos) tb) : CW X W (.BoolOp .And (a :: b :: rest) pos) (cAnd ta tb) := ⟨pw_wk (pw_and ha.p hb.p) fun _ _ _ h => and_lift h⟩
theorem cw_or (ha : CT X W a ta) (hb : CW X W (.BoolOp .Or (b :: rest) pos) tb) : CW X W (.BoolOp .Or (a :: b :: rest) pos) (cOr ta tb) := ⟨pw_wk (pw_or ha.p hb.p) fun _ _ _ h => or_lift h⟩
theorem ct_not (ha : CT X W a ta) : CT X W (.UnaryOp .Not a pos) (cNot ta) := ⟨pt_wk (pt_not ha.p) fun σ H Q ⟨en, sc, hc, m, E, P, r, c, xo, fin⟩ => ⟨en, sc, hc, m, E, _, r, c, xo, fun b hc1 hp H1 m1 x1 => fin _ hc1 hp H1 m1 x1⟩⟩
def cAndV (ca cb : CEx) : CEx := fun E sc hc P => ca E sc hc fun d hc1 => match d with | .bl true => cb E sc hc1 P | .bl false => P (.bl false) hc1 | _ => False
def cOrV (ca cb : CEx) : CEx := fun E sc hc P => ca E sc hc fun d hc1 => match d with | .bl true => P (.bl true) hc1 | .bl false => cb E sc hc1 P | _ => False
def cNotV (ca : CEx) : CEx := fun E sc hc P => ca E sc hc fun d hc1 => match d with | .bl b => P (.bl (!b)) hc1 | _ => False
theorem ce_one {op : BoolOp} (h : CE X W a ca) : CE X W (.BoolOp op [a] pos) ca := ⟨pe_one h.p⟩
theorem ce_and (ha : CE X W a ca) (hb : CE X W (.BoolOp .And (b :: rest) pos) cb) : CE X W (.BoolOp .And (a :: b :: rest) pos) (cAndV ca cb) := ⟨pe_wk (pe_and ha.p hb.p) fun σ H Q h => by
  obtain ⟨en, sc, hc, m, E, P, r, c, xo, fin⟩ := h
  refine ⟨en, sc, hc, m, E, _, r, c, xo, fun d hc1 hp v H1 m1 x1 q => ?_⟩
  cases d <;> try exact hp.elim
  rename_i k
  unfold Rep at q
  refine ⟨k, q, ?_⟩
  cases k with
  | true =>
    rw [if_pos rfl]
    exact ⟨en, sc, hc1, m1, E, _, r.call x1, hp, xo, fun d2 hc2 hp2 v2 H2 m2 x2 q2 => fin d2 hc2 hp2 v2 H2 m2 (x1.trans x2) q2⟩
  | false =>
    rw [if_neg Bool.false_ne_true]
    exact fin _ hc1 hp _ H1 m1 x1 rep_bl⟩
theorem ce_or (ha : CE X W a ca) (hb : CE X W (.BoolOp .Or (b :: rest) pos) cb) : CE X W (.BoolOp .Or (a :: b :: rest) pos) (cOrV ca cb) := ⟨pe_wk (pe_or ha.p hb.p) fun σ H Q h => by
  obtain ⟨en, sc, hc, m, E, P, r, c, xo, fin⟩ := h
  refine ⟨en, sc, hc, m, E, _, r, c, xo, fun d hc1 hp v H1 m1 x1 q => ?_⟩
  cases d <;> try exact hp.elim
  rename_i k
  unfold Rep at q
  refine ⟨k, q, ?_⟩
  cases k with
  | false =>
    rw [if_neg Bool.false_ne_true]
    exact ⟨en, sc, hc1, m1, E, _, r.call x1, hp, xo, fun d2 hc2 hp2 v2 H2 m2 x2 q2 => fin d2 hc2 hp2 v2 H2 m2 (x1.trans x2) q2⟩
  | true =>
    rw [if_pos rfl]
    exact fin _ hc1 hp _ H1 m1 x1 rep_bl⟩
theorem ce_not (ha : CE X W a ca) : CE X W (.UnaryOp .Not a pos) (cNotV ca) := ⟨pe_wk (pe_not ha.p) fun σ H Q h => by
  obtain ⟨en, sc, hc, m, E, P, r, c, xo, fin⟩ := h
  refine ⟨en, sc, hc, m, E, _, r, c, xo, fun d hc1 hp v H1 m1 x1 q => ?_⟩
  cases d <;> try exact hp.elim
  unfold Rep at q
  exact ⟨_, q, fin _ hc1 hp _ H1 m1 x1 rep_bl⟩⟩
def cIf (t : CTx) (ca cb : CEx) : CEx := fun E sc hc P => t E sc hc fun b hc1 => if b = true then ca E sc hc1 P else cb E sc hc1 P
theorem ce_if (hc : CT X W c ta) (ha : CE X W a ca) (hb : CE X W b cb) : CE X W (.IfExp c a b pos) (cIf ta ca cb) := ⟨pe_wk (pe_ifExp hc.p ha.p hb.p) fun σ H Q h => by
  obtain ⟨en, sc, hc, m, E, P, r, c, xo, fin⟩ := h
  refine ⟨en, sc, hc, m, E, _, r, c, xo, fun k hc1 hp H1 m1 x1 => ?_⟩
  cases k with
  | true =>
    rw [if_pos rfl] at hp ⊢
    exact ⟨en, sc, hc1, m1, E, _, r.call x1, hp, xo, fun d2 hc2 hp2 v2 H2 m2 x2 q2 => fin d2 hc2 hp2 v2 H2 m2 (x1.trans x2) q2⟩
  | false =>
    rw [if_neg Bool.false_ne_true] at hp ⊢
    exact ⟨en, sc, hc1, m1, E, _, r.call x1, hp, xo, fun d2 hc2 hp2 v2 H2 m2 x2 q2 => fin d2 hc2 hp2 v2 H2 m2 (x1.trans x2) q2⟩⟩
end
end Mn
namespace Mn
open PySem PySem.Spec PyProof.Rows L2
abbrev RepBL (K : PySem.W.Frag) (σ : L2.St) (sc : List Sl) (H : Hp) (m : Ms) : List D → List V → Prop := Paired (RepB K σ sc H m)
abbrev RepWL (K : PySem.W.Frag) (H : Hp) (m : Ms) : List D → List V → Prop := Paired (RepW K H m)
def LBA (X : Cx) (W : WX) (c : CAx) : TA := fun σ H Q => ∃ en sc hc m E P, Rs X.K en σ H sc hc m ∧ c E sc hc P ∧ XOk X W en E ∧
  ∀ ds hc', P ds hc' → ∀ vs H' m', Ex X.K ⟨H, hc, m⟩ H' hc' m' → RepBL X.K σ sc H' m' ds vs → Q vs H'
structure CBA (X : Cx) (W : WX) (es : List Expr) (c : CAx) : Prop where
  p : PA X es (LBA X W c)
def cNil : CAx := fun _ _ hc P => P [] hc
def cCons (ca : CEx) (cr : CAx) : CAx := fun E sc hc P => ca E sc hc fun d hc1 => cr E sc hc1 fun ds hc2 => P (d :: ds) hc2
section
variable {X : Cx} {W : WX} {a b e : Expr} {es : List Expr} {ca cb : CEx} {c : CAx} {pos : Pos}
theorem ca_nil : CA X W [] cNil := ⟨pa_wk pa_nil fun σ H Q ⟨en, sc, hc, m, E, P, r, k, xo, fin⟩ => fin _ hc k _ H m (.refl r.toWd) RepL.nil⟩
theorem ca_cons (ha : CE X W e ca) (hr : CA X W es c) (hs : starEach (e :: es) X.env = (false, eval e X.env) :: starEach es X.env := by rfl) : CA X W (e :: es) (cCons ca c) :=
  ⟨pa_wk (pa_cons ha.p hr.p hs) fun σ H Q ⟨en, sc, hc, m, E, P, r, k, xo, fin⟩ =>
    ⟨en, sc, hc, m, E, _, r, k, xo, fun d hc1 hp v H1 m1 x1 q1 => ⟨en, sc, hc1, m1, E, _, r.call x1, hp, xo, fun ds hc2 hp2 vs H2 m2 x2 q2 => fin _ hc2 hp2 _ H2 m2 (x1.trans x2) (RepL.cons (Rep.mono x1.mu x2.stp _ _ q1) q2)⟩⟩⟩
theorem RepBL.mono {K : PySem.W.Frag} {en : En} {σ : L2.St} {sc : List Sl} {H H' : Hp} {hc : CH} {m m' : Ms} (r : Rs K en σ H sc hc m) (s : Stp H m H' m') : ∀ {ds : List D} {vs : List V}, RepBL K σ sc H m ds vs → RepBL K σ sc H' m' ds vs
  | _, _, .nil => .nil
  | _, _, .cons h t => .cons (h.mono r s) (RepBL.mono r s t)
theorem RepBL.w {K : PySem.W.Frag} {en : En} {σ : L2.St} {sc : List Sl} {H : Hp} {hc : CH} {m : Ms} (r : Rs K en σ H sc hc m) : ∀ {ds : List D} {vs : List V}, RepBL K σ sc H m ds vs → RepWL K H m ds vs
  | _, _, .nil => .nil
  | _, _, .cons h t => .cons (h.w r) (RepBL.w r t)
theorem cba_nil : CBA X W [] cNil := ⟨pa_wk pa_nil fun σ H Q ⟨en, sc, hc, m, E, P, r, k, xo, fin⟩ => fin _ hc k _ H m (.refl r.toWd) .nil⟩
theorem cba_cons (ha : CB X W e ca) (hr : CBA X W es c) (hs : starEach (e :: es) X.env = (false, eval e X.env) :: starEach es X.env := by rfl) : CBA X W (e :: es) (cCons ca c) :=
  ⟨pa_wk (pa_cons ha.p hr.p hs) fun σ H Q ⟨en, sc, hc, m, E, P, r, k, xo, fin⟩ =>
    ⟨en, sc, hc, m, E, _, r, k, xo, fun d hc1 hp v H1 m1 x1 q1 => ⟨en, sc, hc1, m1, E, _, r.call x1, hp, xo, fun ds hc2 hp2 vs H2 m2 x2 q2 => fin _ hc2 hp2 _ H2 m2 (x1.trans x2) (.cons (q1.mono (r.call x1) x2.stp) q2)⟩⟩⟩
def cStar (ca : CEx) (cr : CAx) : CAx := fun E sc hc P => ca E sc hc fun d hc1 => match d with
  | .tup xs => cr E sc hc1 fun ds hc2 => P (xs ++ ds) hc2
  | .lst xs => cr E sc hc1 fun ds hc2 => P (xs ++ ds) hc2
  | _ => False
theorem ca_star {p : Pos} (ha : CE X W e ca) (hr : CA X W es c) : CA X W (.Starred e p :: es) (cStar ca c) :=
  ⟨pa_wk (StX.pa_star ha.p hr.p) fun σ H Q ⟨en, sc, hc, m, E, P, r, k, xo, fin⟩ => by
    refine ⟨en, sc, hc, m, E, _, r, k, xo, fun d hc1 hp v H1 m1 x1 q1 => ?_⟩
    cases d <;> try exact hp.elim
    · unfold Rep at q1
      obtain ⟨p, vs, rfl, q, rl⟩ := q1
      exact ⟨p, vs, rfl, .inl q, en, sc, hc1, m1, E, _, r.call x1, hp, xo, fun ds hc2 hp2 ws H2 m2 x2 q2 => fin _ hc2 hp2 _ H2 m2 (x1.trans x2) ((RepL.mono x1.mu x2.stp _ _ rl).append q2)⟩
    · unfold Rep at q1
      obtain ⟨p, vs, rfl, _, q, rl⟩ := q1
      exact ⟨p, vs, rfl, .inr (.of q), en, sc, hc1, m1, E, _, r.call x1, hp, xo, fun ds hc2 hp2 ws H2 m2 x2 q2 => fin _ hc2 hp2 _ H2 m2 (x1.trans x2) ((RepL.mono x1.mu x2.stp _ _ rl).append q2)⟩⟩
def cTup (c : CAx) : CEx := fun E sc hc P => c E sc hc fun ds hc1 => ds.length ≤ sizeLine ∧ P (.tup ds) hc1
def cLst (c : CAx) : CEx := fun E sc hc P => c E sc hc fun ds hc1 => ds.length ≤ sizeLine ∧ P (.lst ds) hc1
def updc (hc : CH) (p : Addr) (ds : List D) : CH := fun q => if q = p then some ds else hc q
def cLstM (c : CAx) : CEx := fun E sc hc P => c E sc hc fun ds hc1 => ds.length ≤ sizeLine ∧ ∀ p, hc1 p = none → P (.ref p) (updc hc1 p ds)
theorem ce_tup {x1 : Nat} (h : CA X W es c) : CE X W (.Tuple es x1 pos) (cTup c) :=
  ⟨pe_wk (pe_tup h.p) fun σ H Q ⟨en, sc, hc, m, E, P, r, k, xo, fin⟩ => ⟨en, sc, hc, m, E, _, r, k, xo, fun ds hc1 hp vs H1 m1 x1 q1 =>
    ⟨by rw [← q1.length]; exact hp.1, fun p n => fin _ hc1 hp.2 _ _ m1 (x1.trans (Ex.same x1.toWd (same_upd n))) (rep_tup x1.mu n q1)⟩⟩⟩
theorem ce_lst (h : CA X W es c) : CE X W (.List es pos) (cLst c) :=
  ⟨pe_wk (pe_lst h.p) fun σ H Q ⟨en, sc, hc, m, E, P, r, k, xo, fin⟩ => ⟨en, sc, hc, m, E, _, r, k, xo, fun ds hc1 hp vs H1 m1 x1 q1 =>
    ⟨by rw [← q1.length]; exact hp.1, fun p n => fin _ hc1 hp.2 _ _ m1 (x1.trans (Ex.same x1.toWd (same_upd n))) (rep_lst x1.mu n q1)⟩⟩⟩
theorem wd_newO {K : PySem.W.Frag} {H : Hp} {hc : CH} {m : Ms} {p : Addr} {ds : List D} {u : HO} (w : Wd K H hc m) (n : H p = none) (im : IsMut u) (q : (∀ (es : List D) (vs : List V), RepL K H m es vs → RepL K (upd H p u) (fun a => m a ∨ a = p) es vs) → Held K (upd H p u) (fun a => m a ∨ a = p) p ds) : Ex K ⟨H, hc, m⟩ (upd H p u) (updc hc p ds) (fun a => m a ∨ a = p) := by
  have st : Stp H m (upd H p u) (fun a => m a ∨ a = p) := ⟨fun a o e _ _ => same_upd n a o e, fun a z => z.elim .inl fun e => .inr (by rw [e]; exact n), fun a o e => by rw [same_upd n a o e]; simp⟩
  refine ⟨⟨tabs_put w.tab (.inl n), fun a z => ?_, fun a es e => ?_, fun a es e => ?_⟩, w.mu, w.hm, fun a o e _ _ => same_upd n a o e, st.grow, fun a z _ => .inl z, fun a es e => ?_, fun a o e => by rw [same_upd n a o e]; simp⟩
  · rcases z with z | rfl
    · obtain ⟨ws, e, im⟩ := w.mu a z
      exact ⟨ws, same_upd n _ _ e, im⟩
    · exact ⟨u, upd_same, im⟩
  · unfold updc at e
    by_cases h : a = p
    · exact .inr h
    · rw [if_neg h] at e
      exact .inl (w.hm a es e)
  · unfold updc at e
    by_cases h : a = p
    · rw [if_pos h] at e
      cases e
      subst h
      exact q fun es vs r => RepL.mono w.mu st _ _ r
    · rw [if_neg h] at e
      exact (w.heap a es e).map (fun o e _ => same_upd n _ _ e) fun es vs r => RepL.mono w.mu st _ _ r
  · unfold updc at e
    by_cases h : a = p
    · rw [h]; exact .inr n
    · rw [if_neg h] at e
      exact .inl (by show hc a ≠ none; rw [e]; simp)
theorem wd_new {K : PySem.W.Frag} {H : Hp} {hc : CH} {m : Ms} {p : Addr} {ds : List D} {vs : List V} (w : Wd K H hc m) (n : H p = none) (q : RepL K H m ds vs) : Ex K ⟨H, hc, m⟩ (upd H p (.lst vs)) (updc hc p ds) (fun a => m a ∨ a = p) :=
  wd_newO w n trivial fun g => held_lst upd_same (g _ _ q)
theorem hc_none {K : PySem.W.Frag} {H : Hp} {hc : CH} {m : Ms} {p : Addr} (w : Wd K H hc m) (n : H p = none) : hc p = none := by
  cases e : hc p with
  | none => rfl
  | some ds =>
    obtain ⟨o, e1, _⟩ := (w.heap p ds e).obj
    rw [n] at e1; cases e1
theorem rep_ref {K : PySem.W.Frag} {H : Hp} {m : Ms} {p : Addr} : Rep K H m (.ref p) (.ref p) := by unfold Rep; rfl
theorem ce_lstM (h : CA X W es c) : CE X W (.List es pos) (cLstM c) :=
  ⟨pe_wk (pe_lst h.p) fun σ H Q ⟨en, sc, hc, m, E, P, r, k, xo, fin⟩ => ⟨en, sc, hc, m, E, _, r, k, xo, fun ds hc1 hp vs H1 m1 x1 q1 =>
    ⟨by rw [← q1.length]; exact hp.1, fun p n => by
      have x := wd_new x1.toWd n q1
      exact fin _ _ (hp.2 p (hc_none x1.toWd n)) _ _ _ (x1.trans x) rep_ref⟩⟩⟩
abbrev atD (xs : List D) (i : Int) (P : D → Prop) : Prop := oth (atI xs i) P
def ixD : O2
  | .lst xs, .int i, _, P => atD xs i P
  | .tup xs, .int i, _, P => atD xs i P
  | .str z, .int i, _, P => z.length ≤ sizeLine ∧ oth (atI z.cps.toList i) fun c => P (.str ⟨#[c]⟩)
  | .ref a, .int i, hc, P => oth (hL hc a) fun xs => oth (atI xs i) P
  | _, _, _, _ => False
theorem atD_get {K : PySem.W.Frag} {H : Hp} {m : Ms} {xs : List D} {vs : List V} {i : Int} {P : D → Prop} (r : RepL K H m xs vs) (h : atD xs i P) : ∃ d v, P d ∧ atI vs i = some v ∧ Rep K H m d v := by
  obtain ⟨d, e, h⟩ := oth_of h
  unfold atI at e
  cases e1 : ixN xs.length i with
  | none => rw [e1] at e; cases e
  | some j =>
    rw [e1] at e
    obtain ⟨v, e2, q⟩ := r.get (i := j) (d := d) e
    refine ⟨d, v, h, ?_, q⟩
    unfold atI
    rw [← r.length, e1]
    exact e2
theorem ix_D : IxR X (LV2 X.K ixD) := by
  intro value slice pins s σ H x y v u Q I rx ry h hs
  obtain ⟨hc, m, dx, dy, P, w, h1, h2, f, fin⟩ := h
  cases dx <;> cases dy <;> try exact f.elim
  · unfold RepW Rep at h1 h2
    subst h1; subst h2
    obtain ⟨hz, f⟩ := f
    obtain ⟨c, e, f⟩ := oth_of f
    exact ix_str value slice pins s σ H _ _ v u Q I rx ry ⟨_, _, c, rfl, rfl, hz, e, fin _ f _ _ (.refl H) rep_str⟩ hs
  · unfold RepW Rep at h1 h2
    obtain ⟨p, vs, rfl, q, r⟩ := h1
    subst h2
    obtain ⟨d, z, pd, e, rz⟩ := atD_get r f
    exact ix_tup value slice pins s σ H _ _ v u Q I rx ry ⟨p, vs, _, z, rfl, rfl, q, e, fin _ pd _ _ (.refl H) rz⟩ hs
  · unfold RepW at h1 h2
    unfold Rep at h2
    obtain ⟨p, vs, rfl, q, r⟩ := h1
    subst h2
    obtain ⟨d, z, pd, e, rz⟩ := atD_get r f
    exact ix_list value slice pins s σ H _ _ v u Q I rx ry ⟨p, vs, _, z, rfl, rfl, .of q, e, fin _ pd _ _ (.refl H) rz⟩ hs
  · unfold RepW Rep at h1 h2
    subst h1; subst h2
    obtain ⟨xs, e0, f'⟩ := oth_of f
    obtain ⟨vs, q, r⟩ := w.heapL e0
    obtain ⟨d, z, pd, e, rz⟩ := atD_get r f'
    exact ix_list value slice pins s σ H _ _ v u Q I rx ry ⟨_, vs, _, z, rfl, rfl, .of q, e, fin _ pd _ _ (.refl H) rz⟩ hs
theorem ce_ix (ha : CB X W a ca) (hb : CE X W b cb) (hs : PlainIx b := by first | exact fun _ _ => rfl) : CE X W (.Subscript a b pos) (cOp ixD ca cb) := ⟨pe_wk (pe_ix ix_D ha.p hb.bo.p hs) fun σ H Q h => op_lift h⟩
abbrev COx := XP → List Sl → CH → (Option Int → CH → Prop) → Prop
def LO (X : Cx) (W : WX) (c : COx) : TO := fun σ H Q => ∃ en sc hc m E P, Rs X.K en σ H sc hc m ∧ c E sc hc P ∧ XOk X W en E ∧
  ∀ i hc', P i hc' → ∀ H' m', Ex X.K ⟨H, hc, m⟩ H' hc' m' → Q i H'
structure CO (X : Cx) (W : WX) (e : Option Expr) (c : COx) : Prop where
  p : PO X e (LO X W c)
theorem po_wk {X : Cx} {e : Option Expr} {t t' : TO} (h : PO X e t) (g : ∀ σ H Q, t' σ H Q → t σ H Q) : PO X e t' := ⟨fun pins s σ H Q I q => h.run pins s σ H Q I (g σ H Q q)⟩
def cNoP : COx := fun _ _ hc P => P none hc
def cSoP (c : CEx) : COx := fun E sc hc P => c E sc hc fun d hc1 => match d with | .int i => P (some i) hc1 | _ => False
theorem co_none : CO X W none cNoP := ⟨po_wk po_none fun σ H Q ⟨en, sc, hc, m, E, P, r, k, xo, fin⟩ => fin _ hc k H m (.refl r.toWd)⟩
theorem co_some (h : CE X W e ca) : CO X W (some e) (cSoP ca) := ⟨po_wk (po_some h.p) fun σ H Q ⟨en, sc, hc, m, E, P, r, k, xo, fin⟩ =>
  ⟨en, sc, hc, m, E, _, r, k, xo, fun d hc1 hp v H1 m1 x1 q1 => by
    cases d <;> try exact hp.elim
    unfold Rep at q1
    exact ⟨_, q1, fin _ hc1 hp H1 m1 x1⟩⟩⟩
def cutX {α : Type} (xs : List α) (lo hi : Option Int) : List α := (xs.drop (HT.sIx xs.length 0 lo)).take (HT.sIx xs.length xs.length hi - HT.sIx xs.length 0 lo)
theorem RepL.cut {K : PySem.W.Frag} {H : Hp} {m : Ms} {ds : List D} {vs : List V} (h : RepL K H m ds vs) (lo hi : Option Int) : RepL K H m (cutX ds lo hi) (cutV vs lo hi) := by
  unfold cutX cutV
  rw [h.length]
  exact (h.drop _).take _
def slD (x : D) (lo hi : Option Int) (hc : CH) (P : D → Prop) : Prop := match x with
  | .lst xs => P (.lst (cutX xs lo hi))
  | .frz xs => P (.lst (cutX xs lo hi))
  | .tup xs => P (.tup (cutX xs lo hi))
  | .str z => z.length ≤ sizeLine ∧ P (.str (cutS z lo hi))
  | .ref a => oth (hL hc a) fun xs => P (.lst (cutX xs lo hi))
  | _ => False
def LVS (K : PySem.W.Frag) : V → Option Int → Option Int → Hp → VK → Prop := fun x lo hi H Q => ∃ hc m dx P, Wd K H hc m ∧ RepW K H m dx x ∧ slD dx lo hi hc P ∧ ∀ d, P d → ∀ v H', Same H H' → Rep K H' m d v → Q v H'
theorem cutX_all {α : Type} {xs : List α} {lo hi : Option Int} (h : HT.sIx xs.length 0 lo = 0 ∧ HT.sIx xs.length xs.length hi = xs.length) : cutX xs lo hi = xs := by
  unfold cutX
  rw [h.1, h.2]
  simp
theorem sl_D : SlR X (LVS X.K) := by
  intro pins s σ H x v vl vu lo hi sl Q I rx hs pl pu h
  obtain ⟨hc, m, dx, P, w, h1, f, fin⟩ := h
  cases dx <;> try exact f.elim
  · unfold RepW Rep at h1
    subst h1
    exact sl_str pins s σ H _ v vl vu lo hi sl Q I rx hs pl pu ⟨_, rfl, f.1, fin _ f.2 _ _ (.refl H) rep_str⟩
  · rename_i xs
    unfold RepW Rep at h1
    obtain ⟨p, vs, rfl, q, r⟩ := h1
    refine sl_tupA pins s σ H _ v vl vu lo hi sl Q I rx hs pl pu ⟨p, vs, rfl, q, fun z => fin _ f _ _ (.refl H) ?_, fun _ a n => fin _ f _ _ (same_upd n) (rep_tup w.mu n (r.cut lo hi))⟩
    have l := r.length
    rw [cutX_all (by rw [l]; exact z)]
    unfold Rep
    exact ⟨p, vs, rfl, q, r⟩
  · unfold RepW at h1
    obtain ⟨p, vs, rfl, q, r⟩ := h1
    exact sl_list pins s σ H _ v vl vu lo hi sl Q I rx hs pl pu ⟨p, vs, rfl, .of q, fun a n => fin _ f _ _ (same_upd n) (rep_lst w.mu n (r.cut lo hi))⟩
  · unfold RepW Rep at h1
    subst h1
    obtain ⟨xs, e0, f'⟩ := oth_of f
    obtain ⟨vs, q, r⟩ := w.heapL e0
    exact sl_list pins s σ H _ v vl vu lo hi sl Q I rx hs pl pu ⟨_, vs, rfl, .of q, fun a n => fin _ f' _ _ (same_upd n) (rep_lst w.mu n (r.cut lo hi))⟩
  · unfold RepW Rep at h1
    obtain ⟨p, vs, rfl, q, r⟩ := h1
    exact sl_list pins s σ H _ v vl vu lo hi sl Q I rx hs pl pu ⟨p, vs, rfl, q.sq, fun a n => fin _ f _ _ (same_upd n) (rep_lst w.mu n (r.cut lo hi))⟩
def cSl (ca : CEx) (cl ch : COx) : CEx := fun E sc hc P => ca E sc hc fun x hc1 => cl E sc hc1 fun l hc2 => ch E sc hc2 fun u hc3 => slD x l u hc3 fun d => P d hc3
theorem ce_sl {lo hi : Option Expr} {cl ch : COx} {p2 : Pos} (ha : CB X W a ca) (hl : CO X W lo cl) (hu : CO X W hi ch) : CE X W (.Subscript a (.Slice lo hi none p2) pos) (cSl ca cl ch) :=
  ⟨pe_wk (pe_slice sl_D ha.p hl.p hu.p) fun σ H Q ⟨en, sc, hc, m, E, P, r, k, xo, fin⟩ =>
    ⟨en, sc, hc, m, E, _, r, k, xo, fun x hc1 hp v H1 m1 x1 q1 => ⟨en, sc, hc1, m1, E, _, r.call x1, hp, xo, fun l hc2 hp2 H2 m2 x2 => ⟨en, sc, hc2, m2, E, _, (r.call x1).call x2, hp2, xo, fun u hc3 hp3 H3 m3 x3 =>
      ⟨hc3, m3, x, _, x3.toWd, ((q1.mono (r.call x1) x2.stp).mono ((r.call x1).call x2) x3.stp).w (((r.call x1).call x2).call x3), hp3, fun d pd v' H' sm q => fin d hc3 pd v' H' m3 (x1.trans (x2.trans (x3.trans (Ex.same x3.toWd sm)))) q⟩⟩⟩⟩⟩
def LVn (K : PySem.W.Frag) (f : On) : List V → Hp → VK → Prop := fun xs H Q => ∃ hc m ds P, Wd K H hc m ∧ RepWL K H m ds xs ∧ f ds hc P ∧ ∀ d, P d → ∀ v H', Same H H' → Rep K H' m d v → Q v H'
def cFn (f : On) (c : CAx) : CEx := fun E sc hc P => c E sc hc fun ds hc1 => f ds hc1 fun d => P d hc1
theorem fn_lift {f : On} {σ : L2.St} {H : Hp} {Q : VK} (h : LE X W (cFn f c) σ H Q) : LBA X W c σ H fun xs H1 => LVn X.K f xs H1 Q := by
  obtain ⟨en, sc, hc, m, E, P, r, k, xo, fin⟩ := h
  exact ⟨en, sc, hc, m, E, _, r, k, xo, fun ds hc1 hp vs H1 m1 x1 q1 => ⟨hc1, m1, ds, _, x1.toWd, q1.w (r.call x1), hp, fun d pd v' H' sm q => fin d hc1 pd v' H' m1 (x1.trans (Ex.same x1.toWd sm)) q⟩⟩
theorem ce_bf {x : Str} {id : String} {f : On} {p : Pos} (hc : CallR X (.builtin id) (LVn X.K f)) (hm : X.mg x = none) (ha : CBA X W (e :: es) c) (hg : Gl X x := by rfl) (hv : bootBuiltins x = some (.builtin id) := by decide +kernel) (hn : x ≠ "__name__" := by decide) (hdb : (x == ("__debug__" : Str)) = false := by decide)
    (he : starEach (e :: es) X.env = (false, eval e X.env) :: starEach es X.env := by rfl) (hpl : (backTo pos (starEach es X.env)).any (·.1) = false := by rfl) : CE X W (.Call (.Name x p) (e :: es) [] pos) (cFn f c) :=
  ⟨pe_wk (pe_callB hc hg hm hv ha.p hn hdb he hpl) fun σ H Q h => fn_lift h⟩
theorem ce_bt {x : Str} {id : String} {f : On} {p : Pos} (hc : CallR X (.type id) (LVn X.K f)) (hm : X.mg x = none) (ha : CBA X W (e :: es) c) (hg : Gl X x := by rfl) (hv : bootBuiltins x = some (.type id) := by decide +kernel) (hn : x ≠ "__name__" := by decide) (hdb : (x == ("__debug__" : Str)) = false := by decide)
    (he : starEach (e :: es) X.env = (false, eval e X.env) :: starEach es X.env := by rfl) (hpl : (backTo pos (starEach es X.env)).any (·.1) = false := by rfl) : CE X W (.Call (.Name x p) (e :: es) [] pos) (cFn f c) :=
  ⟨pe_wk (pe_callTy hc hg hm hv ha.p hn hdb he hpl) fun σ H Q h => fn_lift h⟩
abbrev Spc := List D → CH → (D → CH → Prop) → (Exn → CH → Prop) → Prop
def RepXK (K : PySem.W.Frag) (mg : Str → Option Value) (H : Hp) (m : Ms) (x : Exn) (cls : Value) (d : Option Addr) : Prop :=
  mg x.cls = some cls ∧ ((x.fs = [] ∧ d = none) ∨ ∃ dx fs, d = some dx ∧ H dx = some (.xd fs) ∧ fs.map (·.1) = x.fs.map (·.1) ∧ RepL K H m (x.fs.map (·.2)) (fs.map (·.2)))
def toSp (K : PySem.W.Frag) (mg : Str → Option Value) (sp : Spc) : Sp := fun vs H Q E => ∃ hc m ds P PE, Wd K H hc m ∧ RepL K H m ds vs ∧ sp ds hc P PE ∧
  (∀ d hc', P d hc' → ∀ v H' m', Ex K ⟨H, hc, m⟩ H' hc' m' → Rep K H' m' d v → Q v H') ∧
  (∀ x hc', PE x hc' → ∀ cls dx H' m', Ex K ⟨H, hc, m⟩ H' hc' m' → RepXK K mg H' m' x cls dx → E cls dx H')
def cCall (sp : Spc) (c : CAx) : CEx := fun E sc hc P => c E sc hc fun ds hc1 => sp ds hc1 P fun x hc2 => E x sc hc2
theorem ce_call {x : Str} {p : Pos} {k : Nat} {f : Addr} {fd : FuncData} {ps : List Str} {sp : Spc} (F : FnG X.prog X.w X.K X.mg X.base (L2.CX X.prog X.w) k f fd ps (toSp X.K X.mg sp)) (hr : RT k X W) (hm : X.mg x = some (.ref f)) (hk : PySem.W.keepIn X.K (.ref f) = true) (hb : Binds X.K fd ps [])
    (ha : CA X W (e :: es) c) (hg : Gl X x := by rfl) (hdb : (x == ("__debug__" : Str)) = false := by decide) (he : starEach (e :: es) X.env = (false, eval e X.env) :: starEach es X.env := by rfl) (hpl : (backTo pos (starEach es X.env)).any (·.1) = false := by rfl) : CE X W (.Call (.Name x p) (e :: es) [] pos) (cCall sp c) :=
  ⟨pe_wk (pe_callX F hr hg hm hk hb .nil ha.p hdb he hpl) fun σ H Q ⟨en, sc, hc, m, E, P, r, k, xo, fin⟩ =>
    ⟨en, sc, hc, m, E, _, r, k, xo, fun ds hc1 hp vs H1 m1 x1 q1 => by
      show toSp X.K X.mg sp (vs ++ []) H1 Q _
      rw [List.append_nil]
      exact ⟨hc1, m1, ds, P, _, x1.toWd, q1, hp, fun d hc' pd v H' m' x q => fin d hc' pd v H' m' (x1.trans x) q, fun y hc' py cls dx H' m' x q => xo y sc hc' py cls dx σ H' m' (r.call (x1.trans x)) q⟩⟩⟩
end
end Mn
namespace Mn
open PySem PySem.Spec PyProof.Rows L2
structure CEnds where
  nx : List Sl → CH → Prop
  rt : D → CH → Prop
  bk : List Sl → CH → Prop := fun _ _ => False
  ct : List Sl → CH → Prop := fun _ _ => False
  xp : XP := fun _ _ _ => False
abbrev CSx := CEnds → List Sl → CH → Prop
abbrev Goes (X : Cx) (en : En) (H : Hp) (m : Ms) (P : List Sl → CH → Prop) (Q : L2.St → Hp → Prop) : Prop :=
  ∀ sc' hc', P sc' hc' → ∀ σ' H' m', Rs X.K en σ' H' sc' hc' m' → Stp H m H' m' → Q σ' H'
structure EndOk (X : Cx) (W : WX) (en : En) (H : Hp) (m : Ms) (C : CEnds) (D : Ends) : Prop where
  nx : Goes X en H m C.nx D.nx
  bk : Goes X en H m C.bk D.bk
  ct : Goes X en H m C.ct D.ct
  rt : ∀ d hc', C.rt d hc' → ∀ v H' m', Ex X.K en H' hc' m' → Rep X.K H' m' d v → D.rt v H'
  xp : XOk X W en C.xp
theorem Goes.step {X : Cx} {en : En} {H H1 : Hp} {m m1 : Ms} {P : List Sl → CH → Prop} {Q : L2.St → Hp → Prop} (g : Goes X en H m P Q) (s : Stp H m H1 m1) : Goes X en H1 m1 P Q := fun sc' hc' p σ' H' m' r s' => g sc' hc' p σ' H' m' r (s.trans s')
theorem EndOk.step {X : Cx} {W : WX} {en : En} {H H1 : Hp} {m m1 : Ms} {C : CEnds} {D : Ends} (g : EndOk X W en H m C D) (s : Stp H m H1 m1) : EndOk X W en H1 m1 C D := ⟨g.nx.step s, g.bk.step s, g.ct.step s, g.rt, g.xp⟩
def LS (X : Cx) (W : WX) (c : CSx) : TS := fun D σ H => ∃ en sc hc m C, Rs X.K en σ H sc hc m ∧ c C sc hc ∧ EndOk X W en H m C D
structure CS (X : Cx) (W : WX) (st : Stmt) (c : CSx) : Prop where
  p : PS X st (LS X W c)
structure CSs (X : Cx) (W : WX) (st : List Stmt) (c : CSx) : Prop where
  p : PSs X st (LS X W c)
theorem ps_wk {X : Cx} {e : Stmt} {t t' : TS} (h : PS X e t) (g : ∀ D σ H, t' D σ H → t D σ H) : PS X e t' := ⟨fun pins s σ H Q I q => h.run pins s σ H Q I (g Q σ H q)⟩
theorem pss_wk {X : Cx} {e : List Stmt} {t t' : TS} (h : PSs X e t) (g : ∀ D σ H, t' D σ H → t D σ H) : PSs X e t' := ⟨fun pins s σ H Q I q => h.run pins s σ H Q I (g Q σ H q)⟩
section
variable {X : Cx} {W : WX} {st : Stmt} {rest body ob : List Stmt} {c c1 c2 : CSx} {e tg iter : Expr} {es : List Expr} {ce : CEx} {ct : CTx} {ca : CAx} {pos : Pos}
def cNext : CSx := fun C sc hc => C.nx sc hc
def cSeq (c1 c2 : CSx) : CSx := fun C sc hc => c1 { C with nx := fun sc1 hc1 => c2 C sc1 hc1 } sc hc
theorem css_nil : CSs X W [] cNext := ⟨pss_wk pss_nil fun D σ H ⟨en, sc, hc, m, C, r, k, f⟩ => f.nx sc hc k σ H m r .refl⟩
theorem css_cons (h1 : CS X W st c1) (h2 : CSs X W rest c2) : CSs X W (st :: rest) (cSeq c1 c2) := ⟨pss_wk (pss_cons h1.p h2.p) fun D σ H ⟨en, sc, hc, m, C, r, k, f⟩ =>
  ⟨en, sc, hc, m, _, r, k, fun sc' hc' p σ' H' m' r' s' => ⟨en, sc', hc', m', C, r', p, f.step s'⟩, f.bk, f.ct, f.rt, f.xp⟩⟩
theorem css_one (h1 : CS X W st c1) : CSs X W [st] c1 := ⟨pss_one h1.p⟩
def cBrk : CSx := fun C sc hc => C.bk sc hc
theorem cs_break : CS X W (.Break pos) cBrk := ⟨ps_wk ps_break fun D σ H ⟨en, sc, hc, m, C, r, k, f⟩ => f.bk sc hc k σ H m r .refl⟩
def cDrop (ce : CEx) : CSx := fun C sc hc => ce C.xp sc hc fun _ hc1 => C.nx sc hc1
theorem cs_expr (h : CE X W e ce) (hs : swapsWith e none pos.line X.env = pure false := by rfl) : CS X W (.Expr e pos) (cDrop ce) := ⟨ps_wk (ps_expr h.p hs) fun D σ H ⟨en, sc, hc, m, C, r, k, f⟩ =>
  ⟨en, sc, hc, m, C.xp, _, r, k, f.xp, fun d hc1 p v H1 m1 x1 _ => f.nx sc hc1 p σ H1 m1 (r.call x1) x1.stp⟩⟩
theorem Ex.drop {K : PySem.W.Frag} {en : En} {H : Hp} {hc : CH} {m : Ms} (x : Ex K en H hc m) {p : Addr} (h0 : en.H p = none) (h1 : hc p = none) : Ex K en H hc (fun a => m a ∧ a ≠ p) ∧ Stp H m H (fun a => m a ∧ a ≠ p) := by
  have st : Stp H m H (fun a => m a ∧ a ≠ p) := ⟨fun _ _ h _ _ => h, fun _ h => .inl h.1, fun p o h => by rw [h]; simp⟩
  refine ⟨⟨⟨x.tab, fun a z => x.mu a z.1, fun a ds e => ⟨x.hm a ds e, fun z => by rw [z, h1] at e; cases e⟩, fun a ds e => ?_⟩, x.emut, x.ehm, x.keep, fun a z => x.grow a z.1, fun a z n => ⟨x.hold a z n, fun y => ?_⟩, x.hgrow, x.live⟩, st⟩
  · exact (x.heap a ds e).map (fun o e _ => e) fun es vs q => RepL.mono x.mu st _ _ q
  · obtain ⟨vs, e, _⟩ := x.emut a z
    rw [y, h0] at e; cases e
def cRet (ce : CEx) : CSx := fun C sc hc => ce C.xp sc hc fun d hc1 => C.rt d hc1
theorem cs_ret (h : CB X W e ce) : CS X W (.Return (some e) pos) (cRet ce) := ⟨ps_wk (ps_ret h.p) fun D σ H ⟨en, sc, hc, m, C, r, k, f⟩ =>
  ⟨en, sc, hc, m, C.xp, _, r, k, f.xp, fun d hc1 p v H1 m1 x1 q => by
    have r1 := r.call x1
    rcases q with q | ⟨i, ds, e1, rfl, e2⟩
    · exact f.rt d hc1 p v H1 m1 r1.toEx q
    · obtain ⟨a, vs, e3, ma, h0, h1, e4, q⟩ := r1.own i ds e1
      rw [e2] at e3
      cases e3
      obtain ⟨x, st⟩ := r1.toEx.drop h0 h1
      refine f.rt _ hc1 p _ H1 _ x ?_
      unfold Rep
      exact ⟨a, vs, rfl, fun z => z.2 rfl, e4, RepL.mono r1.mu st _ _ q⟩⟩⟩
def cRetN : CSx := fun C _ hc => C.rt .non hc
def cIfS (t : CTx) (c1 c2 : CSx) : CSx := fun C sc hc => t C.xp sc hc fun b hc1 => if b = true then c1 C sc hc1 else c2 C sc hc1
theorem cs_if (ht : CT X W e ct) (h1 : CSs X W body c1) (h2 : CSs X W ob c2) : CS X W (.If e body ob pos) (cIfS ct c1 c2) := ⟨ps_wk (ps_if ht.p h1.p h2.p) fun D σ H ⟨en, sc, hc, m, C, r, k, f⟩ =>
  ⟨en, sc, hc, m, C.xp, _, r, k, f.xp, fun b hc1 p H1 m1 x1 => by
    have r1 := r.call x1
    have s1 := x1.stp
    cases b with
    | true =>
      rw [if_pos rfl] at p
      exact iteT ⟨en, sc, hc1, m1, C, r1, p, f.step s1⟩
    | false =>
      rw [if_neg Bool.false_ne_true] at p
      exact iteF ⟨en, sc, hc1, m1, C, r1, p, f.step s1⟩⟩⟩
abbrev CGx := XP → D → List Sl → CH → (List Sl → CH → Prop) → Prop
def LG (X : Cx) (W : WX) (g : CGx) : TG := fun v σ H Q => ∃ en sc hc m E d P, Rs X.K en σ H sc hc m ∧ Rep X.K H m d v ∧ g E d sc hc P ∧ XOk X W en E ∧ Goes X en H m P Q
structure CG (X : Cx) (W : WX) (e : Expr) (g : CGx) : Prop where
  p : PG X e (LG X W g)
abbrev CGsx := XP → List D → List Sl → CH → (List Sl → CH → Prop) → Prop
def LGs (X : Cx) (W : WX) (g : CGsx) : TGs := fun vs σ H Q => ∃ en sc hc m E ds P, Rs X.K en σ H sc hc m ∧ RepL X.K H m ds vs ∧ g E ds sc hc P ∧ XOk X W en E ∧ Goes X en H m P Q
structure CGs (X : Cx) (W : WX) (es : List Expr) (g : CGsx) : Prop where
  p : PGs X es (LGs X W g)
theorem pg_wk {X : Cx} {e : Expr} {t t' : TG} (h : PG X e t) (g : ∀ v σ H Q, t' v σ H Q → t v σ H Q) : PG X e t' := ⟨fun pins s σ H v u Q I r q => h.run pins s σ H v u Q I r (g v σ H Q q)⟩
theorem pgs_wk {X : Cx} {e : List Expr} {t t' : TGs} (h : PGs X e t) (g : ∀ v σ H Q, t' v σ H Q → t v σ H Q) : PGs X e t' := ⟨fun pins s σ H v u Q I r q => h.run pins s σ H v u Q I r (g v σ H Q q)⟩
theorem Rs.put {K : PySem.W.Frag} {en : En} {σ : L2.St} {H : Hp} {sc : List Sl} {hc : CH} {m : Ms} (r : Rs K en σ H sc hc m) (i : Nat) {d : D} {v : V} (q : Rep K H m d v) : Rs K en (σ.set i (some v)) H (sc.set i (.val d)) hc m := by
  have ne : ∀ (j : Nat) (ds : List D), (sc.set i (.val d))[j]? = some (Sl.own ds) → j ≠ i ∧ sc[j]? = some (Sl.own ds) := fun j ds e => by
    by_cases h : i = j
    · subst h
      by_cases l : i < sc.length
      · rw [List.getElem?_set_self l] at e; cases e
      · rw [List.getElem?_eq_none (by rw [List.length_set]; omega)] at e; cases e
    · rw [List.getElem?_set_ne h] at e
      exact ⟨fun z => h z.symm, e⟩
  refine ⟨r.toEx, fun j d' e => ?_, fun j ds e => ?_, fun j l ds es p e1 e2 e3 e4 => ?_, by rw [List.length_set, List.length_set]; exact r.len⟩
  · by_cases h : i = j
    · subst h
      by_cases l : i < sc.length
      · rw [List.getElem?_set_self l] at e; cases e
        exact ⟨v, List.getElem?_set_self (by rw [← r.len]; exact l), q⟩
      · rw [List.getElem?_eq_none (by rw [List.length_set]; omega)] at e; cases e
    · rw [List.getElem?_set_ne h] at e ⊢
      exact r.slot j d' e
  · obtain ⟨h, e'⟩ := ne j ds e
    rw [List.getElem?_set_ne (Ne.symm h)]
    exact r.own j ds e'
  · obtain ⟨h1, f1⟩ := ne j ds e1
    obtain ⟨h2, f2⟩ := ne l es e2
    rw [List.getElem?_set_ne (Ne.symm h1)] at e3
    rw [List.getElem?_set_ne (Ne.symm h2)] at e4
    exact r.sep j l ds es p f1 f2 e3 e4
def gN (i : Nat) : CGx := fun _ d sc hc P => P (sc.set i (.val d)) hc
theorem cg_n (i : Nat) {x : Str} (hN : X.N.Nodup) (hi : X.N[i]? = some x := by rfl) (hx : Loc X.env.scope x := by first | exact Or.inl rfl | exact Or.inr rfl) (hf : X.fn x = true ∨ X.env.scope.names.lookup x = some .local := by first | exact .inl rfl | exact .inr rfl) : CG X W (.Name x pos) (gN i) :=
  ⟨pg_wk (pg_name hN hi hx hf) fun v σ H Q ⟨en, sc, hc, m, E, d, P, r, q, k, xo, f⟩ => f _ hc k _ H m (r.put i q) .refl⟩
def gNil' : CGsx := fun _ ds sc hc P => match ds with | [] => P sc hc | _ => False
def gCons' (g : CGx) (gs : CGsx) : CGsx := fun E ds sc hc P => match ds with | d :: r => g E d sc hc fun sc1 hc1 => gs E r sc1 hc1 P | [] => False
theorem cgs_nil : CGs X W [] gNil' := ⟨pgs_wk pgs_nil fun vs σ H Q ⟨en, sc, hc, m, E, ds, P, r, q, k, xo, f⟩ => by
  cases ds with
  | nil => unfold RepL at q; subst q; exact ⟨rfl, f sc hc k σ H m r .refl⟩
  | cons d ds => exact k.elim⟩
theorem cgs_cons {g : CGx} {gs : CGsx} (h1 : CG X W e g) (h2 : CGs X W es gs) (hs : (assignEach (e :: es) X.env).map (·.2) = assign e X.env :: (assignEach es X.env).map (·.2) := by rfl) : CGs X W (e :: es) (gCons' g gs) :=
  ⟨pgs_wk (pgs_cons h1.p h2.p hs) fun vs σ H Q ⟨en, sc, hc, m, E, ds, P, r, q, k, xo, f⟩ => by
    cases ds with
    | nil => exact k.elim
    | cons d ds =>
      unfold RepL at q
      obtain ⟨v, vr, rfl, q1, q2⟩ := q
      exact ⟨v, vr, rfl, en, sc, hc, m, E, d, _, r, q1, k, xo, fun sc1 hc1 k1 σ1 H1 m1 r1 s1 => ⟨en, sc1, hc1, m1, E, ds, P, r1, RepL.mono r.mu s1 _ _ q2, k1, xo, f.step s1⟩⟩⟩
def gTup' (n : Nat) (gs : CGsx) : CGx := fun E d sc hc P => match d with | .tup xs => xs.length = n ∧ gs E xs sc hc P | _ => False
theorem cg_t {gs : CGsx} {n k : Nat} (hc : X.calm = true) (h : CGs X W es gs) (hn : (assignEach es X.env).length = n := by rfl) (hst : (assignEach es X.env).findIdx? (·.1) = none := by rfl) : CG X W (.Tuple es k pos) (gTup' n gs) :=
  ⟨pg_wk (pg_tup hc h.p hn hst) fun v σ H Q ⟨en, sc, hc, m, E, d, P, r, q, k, xo, f⟩ => by
    cases d <;> try exact k.elim
    unfold Rep at q
    obtain ⟨p, vs, rfl, q1, q2⟩ := q
    exact ⟨p, vs, rfl, q1, by rw [← q2.length]; exact k.1, en, sc, hc, m, E, _, P, r, q2, k.2, xo, f⟩⟩
def gUnl' (n : Nat) (gs : CGsx) : CGx := fun E d sc hc P => match d with
  | .lst xs => xs.length = n ∧ gs E xs sc hc P
  | .ref a => oth (hL hc a) fun xs => xs.length = n ∧ gs E xs sc hc P
  | _ => False
theorem cg_l {gs : CGsx} {n k : Nat} (hc : X.calm = true) (h : CGs X W es gs) (hn : (assignEach es X.env).length = n := by rfl) (hst : (assignEach es X.env).findIdx? (·.1) = none := by rfl) : CG X W (.Tuple es k pos) (gUnl' n gs) :=
  ⟨pg_wk (pg_unl hc h.p hn hst) fun v σ H Q ⟨en, sc, hc, m, E, d, P, r, q, k, xo, f⟩ => by
    cases d <;> try exact k.elim
    · unfold Rep at q
      obtain ⟨p, vs, rfl, _, q1, q2⟩ := q
      exact ⟨p, vs, rfl, .of q1, by rw [← q2.length]; exact k.1, en, sc, hc, m, E, _, P, r, q2, k.2, xo, f⟩
    · unfold Rep at q
      subst q
      obtain ⟨xs, e, l, k⟩ := oth_of k
      obtain ⟨vs, q1, q2⟩ := r.heapL e
      exact ⟨_, vs, rfl, .of q1, by rw [← q2.length]; exact l, en, sc, hc, m, E, _, P, r, q2, k, xo, f⟩⟩
theorem Rs.chgO {K : PySem.W.Frag} {en : En} {σ : L2.St} {H : Hp} {sc : List Sl} {hc : CH} {m : Ms} (r : Rs K en σ H sc hc m) {a : Addr} {ds es : List D} {u : HO} (h : hc a = some ds) (im : IsMut u) (q : (∀ (es : List D) (vs : List V), RepL K H m es vs → RepL K (upd H a u) m es vs) → Held K (upd H a u) m a es) :
    Rs K en σ (upd H a u) sc (updc hc a es) m ∧ Stp H m (upd H a u) m := by
  have ma := r.hm a ds h
  have st : Stp H m (upd H a u) m := ⟨fun p o e _ n => by rw [upd_ne (fun z => n (by rw [z]; exact ma))]; exact e, fun _ h => .inl h, fun p o e => upd_some e⟩
  refine ⟨⟨⟨⟨tabs_put r.tab (.inr (r.mu a ma)), fun p z => ?_, fun p ds' e => ?_, fun p ds' e => ?_⟩, r.emut, r.ehm, fun p o e t n => ?_, r.grow, r.hold, fun p ds' e => ?_, fun p o e => ?_⟩, fun i d e => ?_, fun i ds' e => ?_, r.sep, r.len⟩, st⟩
  · by_cases hp : p = a
    · subst hp; exact ⟨u, upd_same, im⟩
    · rw [upd_ne hp]; exact r.mu p z
  · unfold updc at e
    by_cases hp : p = a
    · rw [hp]; exact ma
    · rw [if_neg hp] at e; exact r.hm p ds' e
  · unfold updc at e
    by_cases hp : p = a
    · rw [if_pos hp] at e; cases e
      subst hp
      exact q fun es vs r2 => RepL.mono r.mu st _ _ r2
    · rw [if_neg hp] at e
      exact (r.heap p ds' e).map (fun o e _ => by rw [upd_ne hp]; exact e) fun es vs q1 => RepL.mono r.mu st _ _ q1
  · rw [upd_ne ?_]
    · exact r.keep p o e t n
    · rintro rfl
      rcases r.hgrow p ds h with y | y
      · exact y n
      · rw [e] at y; cases y
  · unfold updc at e
    by_cases hp : p = a
    · rw [hp]; exact r.hgrow a ds h
    · rw [if_neg hp] at e; exact r.hgrow p ds' e
  · by_cases hp : p = a
    · subst hp; rw [upd_same]; simp
    · rw [upd_ne hp]; exact r.live p o e
  · obtain ⟨v, e1, q1⟩ := r.slot i d e
    exact ⟨v, e1, Rep.mono r.mu st _ _ q1⟩
  · obtain ⟨p, vs, e1, mp, ep, hp, eH, q1⟩ := r.own i ds' e
    have hpa : p ≠ a := fun z => by rw [z, h] at hp; cases hp
    exact ⟨p, vs, e1, mp, ep, by unfold updc; rw [if_neg hpa]; exact hp, by rw [upd_ne hpa]; exact eH, RepL.mono r.mu st _ _ q1⟩
theorem Rs.chg {K : PySem.W.Frag} {en : En} {σ : L2.St} {H : Hp} {sc : List Sl} {hc : CH} {m : Ms} (r : Rs K en σ H sc hc m) {a : Addr} {ds es : List D} {ws : List V} (h : hc a = some ds) (q : RepL K H m es ws) :
    Rs K en σ (upd H a (.lst ws)) sc (updc hc a es) m ∧ Stp H m (upd H a (.lst ws)) m := r.chgO h trivial fun g => held_lst upd_same (g _ _ q)
def gSub' (co ci : CEx) : CGx := fun E d sc hc P => co E sc hc fun o hc1 => ci E sc hc1 fun i hc2 => match o, i with
  | .ref a, .int k => oth (hL hc2 a) fun ds => oth (ixN ds.length k) fun j => P sc (updc hc2 a (ds.set j d))
  | _, _ => False
theorem cg_s {o i : Expr} {co ci : CEx} (ho : CE X W o co) (hi : CE X W i ci) (ha : ∀ v, assign (.Subscript o i pos) X.env v = (do
      let ov ← holding [v] (eval o X.env)
      let iv ← holding [v, ov] (eval i X.env)
      standAt pos
      holding [v, ov, iv] (setItem ov iv v)
      release [v, ov, iv] []) := by intro _; rfl) : CG X W (.Subscript o i pos) (gSub' co ci) :=
  ⟨pg_wk (pg_sub ho.p hi.p set_list ha) fun v σ H Q ⟨en, sc, hc, m, E, d, P, r, q, k, xo, f⟩ =>
    ⟨en, sc, hc, m, E, _, r, k, xo, fun x hc1 k1 v1 H1 m1 x1 q1 => ⟨en, sc, hc1, m1, E, _, r.call x1, k1, xo, fun y hc2 k2 v2 H2 m2 x2 q2 => by
      have r2 := (r.call x1).call x2
      have s1 := x1.stp
      have s2 := x2.stp
      cases x <;> try exact k2.elim
      cases y <;> try exact k2.elim
      obtain ⟨ds, e, k2⟩ := oth_of k2
      obtain ⟨j, ej, k3⟩ := oth_of k2
      unfold Rep at q1 q2
      subst q1; subst q2
      obtain ⟨vs, e1, rl⟩ := r2.heapL e
      have qd := Rep.mono r.mu (s1.trans s2) _ _ q
      obtain ⟨r3, s3⟩ := r2.chg (es := ds.set j d) (ws := vs.set j v) (hL_some e).1 (RepL.set qd j rl)
      exact ⟨_, vs, _, j, rfl, rfl, e1, by rw [← rl.length]; exact ej, f _ _ k3 _ _ m2 r3 (s1.trans (s2.trans s3))⟩⟩⟩⟩
def cAsg (ce : CEx) (g : CGx) : CSx := fun C sc hc => ce C.xp sc hc fun d hc1 => g C.xp d sc hc1 fun sc2 hc2 => C.nx sc2 hc2
theorem asg_lift {g : CGx} {D : Ends} {σ : L2.St} {H : Hp} (h : LS X W (cAsg ce g) D σ H) : tAsg (LE X W ce) (LG X W g) D σ H := by
  obtain ⟨en, sc, hc, m, C, r, k, f⟩ := h
  exact ⟨en, sc, hc, m, C.xp, _, r, k, f.xp, fun d hc1 p v H1 m1 x1 q => ⟨en, sc, hc1, m1, C.xp, d, _, r.call x1, q, p, f.xp, f.nx.step x1.stp⟩⟩
theorem cs_asg {g : CGx} (he : CE X W e ce) (hg : CG X W tg g) (hs : swapsWithSole [tg] e pos.line X.env = pure false := by rfl) (hw : swappedStores [tg] e X.env = pure none := by rfl)
    (h1 : (assignEach [tg] X.env).map (·.2) = [assign tg X.env] := by rfl) : CS X W (.Assign [tg] e pos) (cAsg ce g) := ⟨ps_wk (ps_asg he.p hg.p hs hw h1) fun D σ H h => asg_lift h⟩
theorem cs_set {i : Nat} {x : Str} {p2 : Pos} (hN : X.N.Nodup) (he : CE X W e ce) (hi : X.N[i]? = some x := by rfl) (hx : Loc X.env.scope x := by first | exact Or.inl rfl | exact Or.inr rfl) (hs : swapsWith e (some (.Name x p2)) pos.line X.env = pure false := by rfl) (hf : X.fn x = true ∨ X.env.scope.names.lookup x = some .local := by first | exact .inl rfl | exact .inr rfl) :
    CS X W (.Assign [.Name x p2] e pos) (cAsg ce (gN i)) := ⟨ps_wk (ps_set hN hi hx he.p hs hf) fun D σ H ⟨en, sc, hc, m, C, r, k, f⟩ =>
  ⟨en, sc, hc, m, C.xp, _, r, k, f.xp, fun d hc1 p v H1 m1 x1 q => f.nx _ hc1 p _ H1 m1 ((r.call x1).put i q) x1.stp⟩⟩
def cSetO (i : Nat) (ca : CAx) : CSx := fun C sc hc => ca C.xp sc hc fun ds hc1 => ds.length ≤ sizeLine ∧ C.nx (sc.set i (.own ds)) hc1
def cApp (i : Nat) (ce : CEx) : CSx := fun C sc hc => match lookO sc i with | some ds => ds.length < sizeLine ∧ ce C.xp sc hc fun d hc1 => C.nx (sc.set i (.own (ds ++ [d]))) hc1 | none => False
theorem Rs.give {K : PySem.W.Frag} {en : En} {σ : L2.St} {H : Hp} {sc : List Sl} {hc : CH} {m : Ms} (r : Rs K en σ H sc hc m) {i : Nat} {ds : List D} (e : sc[i]? = some (Sl.own ds)) : ∃ m', Rs K en σ H (sc.set i (.val (.lst ds))) hc m' ∧ Stp H m H m' := by
  obtain ⟨p, vs, e1, ma, h0, h1, eH, q1⟩ := r.own i ds e
  obtain ⟨x, st⟩ := r.toEx.drop h0 h1
  have li : i < sc.length := by
    by_cases l : i < sc.length
    · exact l
    · rw [List.getElem?_eq_none (by omega)] at e; cases e
  have ne : ∀ (j : Nat) (ds' : List D), (sc.set i (.val (.lst ds)))[j]? = some (Sl.own ds') → j ≠ i ∧ sc[j]? = some (Sl.own ds') := fun j ds' e' => by
    by_cases h : i = j
    · subst h; rw [List.getElem?_set_self li] at e'; cases e'
    · rw [List.getElem?_set_ne h] at e'; exact ⟨fun z => h z.symm, e'⟩
  refine ⟨_, ⟨x, fun j d e' => ?_, fun j ds' e' => ?_, fun j l ds1 ds2 b f1 f2 f3 f4 => r.sep j l _ _ b (ne j _ f1).2 (ne l _ f2).2 f3 f4, by rw [List.length_set]; exact r.len⟩, st⟩
  · by_cases h : i = j
    · subst h
      rw [List.getElem?_set_self li] at e'; cases e'
      refine ⟨_, e1, ?_⟩
      unfold Rep
      exact ⟨p, vs, rfl, fun z => z.2 rfl, eH, RepL.mono r.mu st _ _ q1⟩
    · rw [List.getElem?_set_ne h] at e'
      obtain ⟨v, e2, q2⟩ := r.slot j d e'
      exact ⟨v, e2, Rep.mono r.mu st _ _ q2⟩
  · obtain ⟨hj, e2⟩ := ne j ds' e'
    obtain ⟨b, us, e3, mb, b0, b1, bH, q2⟩ := r.own j ds' e2
    refine ⟨b, us, e3, ⟨mb, fun z => hj (r.sep j i ds' ds p e2 e (by rw [← z]; exact e3) e1)⟩, b0, b1, bH, RepL.mono r.mu st _ _ q2⟩
def cGive (i : Nat) (c : CSx) : CSx := fun C sc hc => match lookO sc i with | some ds => c C (sc.set i (.val (.lst ds))) hc | none => False
def cPar (i j : Nat) (ca : CAx) : CSx := fun C sc hc => ca C.xp sc hc fun ds hc1 => match ds with | [x, y] => C.nx ((sc.set i (.val x)).set j (.val y)) hc1 | _ => False
theorem cs_par {i j : Nat} {x y : Str} {a b : Expr} {px py pt : Pos} {kt k2 : Nat} {p2 : Pos} (hc : X.calm = true) (hN : X.N.Nodup) (ha : CA X W [a, b] ca) (hw : swappedStores [.Tuple [.Name x px, .Name y py] kt pt] (.Tuple [a, b] k2 p2) X.env = pure (some [x, y]) := by rfl) (hi : X.N[i]? = some x := by rfl) (hj : X.N[j]? = some y := by rfl) (hij : i ≠ j := by decide)
    (hx : X.env.scope.names.lookup x = some .local := by rfl) (hy : X.env.scope.names.lookup y = some .local := by rfl)
    (hs : swapsWithSole [.Tuple [.Name x px, .Name y py] kt pt] (.Tuple [a, b] k2 p2) pos.line X.env = pure false := by rfl) : CS X W (.Assign [.Tuple [.Name x px, .Name y py] kt pt] (.Tuple [a, b] k2 p2) pos) (cPar i j ca) :=
  ⟨ps_wk (ps_par hc hN hi hj hij hx hy ha.p hw hs) fun D σ H ⟨en, sc, hc, m, C, r, k, f⟩ =>
    ⟨en, sc, hc, m, C.xp, _, r, k, f.xp, fun ds hc1 p vs H1 m1 x1 q => by
      have r1 := r.call x1
      have s1 := x1.stp
      split at p
      · unfold RepL at q
        obtain ⟨v, _, rfl, q1, q⟩ := q
        unfold RepL at q
        obtain ⟨w, _, rfl, q2, q⟩ := q
        unfold RepL at q
        subst q
        exact ⟨v, w, rfl, f.nx _ hc1 p _ H1 m1 ((r1.put i q1).put j q2) s1⟩
      · exact p.elim⟩⟩
def cPar3 (i j l : Nat) (ca : CAx) : CSx := fun C sc hc => ca C.xp sc hc fun ds hc1 => match ds with | [x, y, z] => C.nx (((sc.set i (.val x)).set j (.val y)).set l (.val z)) hc1 | _ => False
theorem cs_par3 {i j l : Nat} {x y z : Str} {a b c : Expr} {px py pz pt : Pos} {kt k2 : Nat} {p2 : Pos} (hc : X.calm = true) (hN : X.N.Nodup) (ha : CA X W [a, b, c] ca) (hw : swappedStores [.Tuple [.Name x px, .Name y py, .Name z pz] kt pt] (.Tuple [a, b, c] k2 p2) X.env = pure (some [x, y, z]) := by rfl) (hi : X.N[i]? = some x := by rfl) (hj : X.N[j]? = some y := by rfl) (hl : X.N[l]? = some z := by rfl) (hij : i ≠ j := by decide) (hil : i ≠ l := by decide) (hjl : j ≠ l := by decide)
    (hx : X.env.scope.names.lookup x = some .local := by rfl) (hy : X.env.scope.names.lookup y = some .local := by rfl) (hz : X.env.scope.names.lookup z = some .local := by rfl)
    (hs : swapsWithSole [.Tuple [.Name x px, .Name y py, .Name z pz] kt pt] (.Tuple [a, b, c] k2 p2) pos.line X.env = pure false := by rfl) : CS X W (.Assign [.Tuple [.Name x px, .Name y py, .Name z pz] kt pt] (.Tuple [a, b, c] k2 p2) pos) (cPar3 i j l ca) :=
  ⟨ps_wk (ps_par3 hc hN hi hj hl hij hil hjl hx hy hz ha.p hw hs) fun D σ H ⟨en, sc, hc, m, C, r, k, f⟩ =>
    ⟨en, sc, hc, m, C.xp, _, r, k, f.xp, fun ds hc1 p vs H1 m1 x1 q => by
      have r1 := r.call x1
      have s1 := x1.stp
      split at p
      · unfold RepL at q
        obtain ⟨v, _, rfl, q1, q⟩ := q
        unfold RepL at q
        obtain ⟨w, _, rfl, q2, q⟩ := q
        unfold RepL at q
        obtain ⟨w3, _, rfl, q3, q⟩ := q
        unfold RepL at q
        subst q
        exact ⟨v, w, w3, rfl, f.nx _ hc1 p _ H1 m1 (((r1.put i q1).put j q2).put l q3) s1⟩
      · exact p.elim⟩⟩
def whN (t : CTx) (c : CSx) : Nat → CSx
  | 0 => fun _ _ _ => False
  | n + 1 => fun C sc hc => t C.xp sc hc fun b hc1 => if b = true then c { nx := fun s h => whN t c n C s h, ct := fun s h => whN t c n C s h, bk := C.nx, rt := C.rt, xp := C.xp } sc hc1 else C.nx sc hc1
def cWhile (t : CTx) (c : CSx) : CSx := fun C sc hc => ∃ n, whN t c n C sc hc
theorem cs_while (hp : PassesOwn (model X.prog X.w) X.A X.env X.xe) (ht : CT X W e ct) (hb : CSs X W body c) : CS X W (.While e body [] pos) (cWhile ct c) := ⟨ps_wk (ps_while hp ht.p hb.p) fun D σ H ⟨en, sc, hc, m, C, r, ⟨n, k⟩, f⟩ => by
  refine ⟨fun n σ' H' => ∃ sc' hc' m', Rs X.K en σ' H' sc' hc' m' ∧ Stp H m H' m' ∧ whN ct c n C sc' hc', ⟨n, sc, hc, m, r, .refl, k⟩, fun n σ1 H1 ⟨sc1, hc1, m1, r1, s1, k1⟩ => ?_⟩
  cases n with
  | zero => exact k1.elim
  | succ n =>
    refine ⟨en, sc1, hc1, m1, C.xp, _, r1, k1, f.xp, fun b hc2 p H2 m2 x2 => ?_⟩
    have r2 := r1.call x2
    have s12 := s1.trans x2.stp
    cases b with
    | true =>
      rw [if_pos rfl] at p
      refine iteT ⟨_, fun σ' H' h => h, en, sc1, hc2, m2, _, r2, p, ⟨fun sc' hc' p' σ' H' m' r' s' => ⟨n, Nat.lt_succ_self n, sc', hc', m', r', s12.trans s', p'⟩, f.nx.step s12, fun sc' hc' p' σ' H' m' r' s' => ⟨n, Nat.lt_succ_self n, sc', hc', m', r', s12.trans s', p'⟩, f.rt, f.xp⟩⟩
    | false =>
      rw [if_neg Bool.false_ne_true] at p
      exact iteF (f.nx sc1 hc2 p σ1 H2 m2 r2 s12)⟩
theorem longTurn {P : Program} {w : World} {K : PySem.W.Frag} {tg : Expr} (b0 : Addr) (l : Int) (n : Nat) : Turn P w K tg (Itr l n) [b0] b0 (fun i g => IsLongIter g b0 (l + (i : Nat) * 1) ((n : Int) - (i : Nat)) 1) where
  mem := List.mem_singleton.mpr rfl
  obj := fun i g st b hb => by
    cases List.mem_singleton.mp hb
    refine ⟨_, st, fun v z => ?_⟩
    have z2 : Data.fields _ = Data.cell v := z
    cases z2
  keep := fun i g g' st k => k b0 (List.mem_singleton.mpr rfl) _ st
  item := fun X hP hw hK hc i pins s σ H E I hf st hg => by
    subst hP; subst hw; subst hK
    obtain ⟨f0, f1, f2, f3, f4, f5⟩ := hf b0 (List.mem_singleton.mpr rfl)
    refine (Walks.longrange (prog := X.prog) (w := X.w) (I.ok.hd hc) b0 l 1 n).item i s _ _ hg st fun v g tk hv st2 kk => ?_
    obtain ⟨t, rfl⟩ := hv
    have I2 : Inv X pins σ H { s with heap := g, toks := tk } := I.turned (fun b o hb e => kk b o (fun z => hb (List.mem_singleton.mp z)) e) f0 f1 f3 f4 f5
    refine ⟨_, rfl, go_of (s := { s with heap := g, toks := tk }) (n := "longrange_iterator") st2 rfl rfl (by decide) ⟨.int (l + i), H, I2, ⟨t, ?_⟩, ⟨rfl, rfl⟩, st2, fun b hb => (hf b hb).1⟩⟩
    rw [Int.mul_one]
  done := fun X hP hw hK hc i pins s σ H E I hf st hg => by
    subst hP; subst hw; subst hK
    obtain ⟨f0, f1, f2, f3, f4, f5⟩ := hf b0 (List.mem_singleton.mpr rfl)
    refine wpAny_pyNext_long_end (I.ok.hd hc) st ?_ fun g eb => ⟨rfl, I.turned (t' := s.toks) (fun b o hb e => eb b o hb e) f0 f1 f3 f4 f5⟩
    have : n ≤ i := hg
    omega
  self := fun _ _ _ _ _ st h => wpAny_pyIter_longiter st h
theorem rangeAny {pins : List (Addr × Obj)} {σ : L2.St} {H : Hp} {s : Shared} {R : It → Hp → Prop} {E : Value → Shared → Prop} {l u : Int} {t1 t2 t3 : Tok} {tk : Nat} (I : Inv X pins σ H s)
    (q : R (Itr l (u - l).toNat) H) : wpAny (model X.prog X.w) X.A (pyIter (.ref s.heap.objs.size)) (PIE X pins σ tg R) E { s with heap := s.heap.push { cls := .type "range", data := .fields #[.int l t1, .int u t2, .int 1 t3] }, toks := tk } := by
  have I1 : Inv X pins σ H { s with heap := s.heap.push { cls := .type "range", data := .fields #[.int l t1, .int u t2, .int 1 t3] }, toks := tk } := I.kept fun b o e => Heap.get?_push_of_some _ e
  have e1 : l + ((0 : Nat) : Int) * 1 = l := by omega
  have e2 : (((u - l).toNat : Nat) : Int) - ((0 : Nat) : Int) = Builtin.Range.rangeSize l u 1 := by rw [rangeSize_one]; split <;> omega
  cases hs : Builtin.Range.small l u 1 with
  | true =>
    refine wpAny_pyIter_range (IsRange.new ..) hs ?_
    refine ⟨_, [_], _, _, H, rfl, I1.kept (t' := tk) fun b o e => Heap.get?_push_of_some _ e, turn_range _ l (u - l).toNat, ?_, fun b hb => ?_, q⟩
    · show IsRangeIter _ _ (l + ((0 : Nat) : Int) * 1) ((((u - l).toNat : Nat) : Int) - ((0 : Nat) : Int)) 1
      rw [e1, e2]
      exact Heap.get?_push_size _ rfl
    · cases List.mem_singleton.mp hb
      exact I1.fpOk (Nat.le_refl _) (I1.hok.fresh (Nat.le_refl _))
  | false =>
    refine wpAny_pyIter_longrange (IsRange.new ..) hs ?_
    refine ⟨_, [_], _, _, H, rfl, I1.kept (t' := tk) fun b o e => Heap.get?_push_of_some _ e, longTurn _ l (u - l).toNat, ?_, fun b hb => ?_, q⟩
    · show IsLongIter _ _ (l + ((0 : Nat) : Int) * 1) ((((u - l).toNat : Nat) : Int) - ((0 : Nat) : Int)) 1
      rw [e1, e2]
      exact Heap.get?_push_size _ rfl
    · cases List.mem_singleton.mp hb
      exact I1.fpOk (Nat.le_refl _) (I1.hok.fresh (Nat.le_refl _))
def tR1 (ta : L2.TA) : TI := fun σ H R => ta σ H fun vs H1 => ∃ j : Int, vs = [.int j] ∧ R (Itr 0 j.toNat) H1
def tR2 (ta : L2.TA) : TI := fun σ H R => ta σ H fun vs H1 => ∃ i j : Int, vs = [.int i, .int j] ∧ R (Itr i (j - i).toNat) H1
theorem piR1 {a : Expr} {ta : L2.TA} {p pos : Pos} (hg : Gl X "range") (hm : X.mg "range" = none) (ha : PA X [a] ta) (hs : starEach [a] X.env = [(false, eval a X.env)]) : PI X tg (.Call (.Name "range" p) [a] [] pos) (tR1 ta) := by
  refine ⟨fun pins s σ H R I h => Call_ (ld_blt I hg hm boot_range (PyProof.Rows.callWith_type1 (thn (ha.run pos pins s σ H _ I h) fun us s1 ⟨vs, H1, I1, r1, q1⟩ => ?_) hs rfl))⟩
  obtain ⟨j, rfl, q⟩ := q1
  obtain _ | ⟨r, rr⟩ := r1
  cases rr
  obtain ⟨t, rfl⟩ := r
  refine call_range_1 (rangeAny I1 ?_)
  rw [Int.sub_zero]
  exact q
theorem piR2 {a b : Expr} {ta : L2.TA} {p pos : Pos} (hg : Gl X "range") (hm : X.mg "range" = none) (ha : PA X [a, b] ta) (hs : starEach [a, b] X.env = [(false, eval a X.env), (false, eval b X.env)]) (hs2 : starEach [b] X.env = [(false, eval b X.env)]) :
    PI X tg (.Call (.Name "range" p) [a, b] [] pos) (tR2 ta) := by
  refine ⟨fun pins s σ H R I h => Call_ (ld_blt I hg hm boot_range (PyProof.Rows.callWith_type1 (thn (ha.run pos pins s σ H _ I h) fun us s1 ⟨vs, H1, I1, r1, q1⟩ => ?_) (by rw [hs, hs2]) (by rw [hs2]; rfl)))⟩
  obtain ⟨i, j, rfl, q⟩ := q1
  obtain _ | ⟨r, rr⟩ := r1
  obtain _ | ⟨r', rr⟩ := rr
  cases rr
  obtain ⟨t, rfl⟩ := r
  obtain ⟨t', rfl⟩ := r'
  exact call_range_2 (rangeAny I1 q)
def Yields (K : PySem.W.Frag) (J : It) (ds : List D) (H0 : Hp) (m0 : Ms) : Prop := ∀ (H : Hp) (m : Ms), MutOk H m → Stp H0 m0 H m → ∀ i : Nat,
  (∀ d, ds[i]? = some d → J.go i H ∧ ∀ x H', J.yld i H x H' → Same H H' ∧ Rep K H' m d x) ∧ (ds.length ≤ i → J.stop i H)
abbrev CIx := XP → List Sl → CH → (List D → CH → Prop) → Prop
def LI (X : Cx) (W : WX) (c : CIx) : TI := fun σ H R => ∃ en sc hc m E P, Rs X.K en σ H sc hc m ∧ c E sc hc P ∧ XOk X W en E ∧
  ∀ ds hc', P ds hc' → ∀ J H' m', Ex X.K ⟨H, hc, m⟩ H' hc' m' → Yields X.K J ds H' m' → R J H'
structure CI (X : Cx) (W : WX) (tg e : Expr) (c : CIx) : Prop where
  p : PI X tg e (LI X W c)
theorem pi_wk {X : Cx} {tg e : Expr} {t t' : TI} (h : PI X tg e t) (g : ∀ σ H Q, t' σ H Q → t σ H Q) : PI X tg e t' := ⟨fun pins s σ H Q I q => h.run pins s σ H Q I (g σ H Q q)⟩
def forW (g : CGx) (c : CSx) : List D → CSx
  | [] => fun C sc hc => C.nx sc hc
  | d :: ds => fun C sc hc => g C.xp d sc hc fun sc1 hc1 => c { nx := fun s h => forW g c ds C s h, ct := fun s h => forW g c ds C s h, bk := C.nx, rt := C.rt, xp := C.xp } sc1 hc1
def cFor (ci : CIx) (g : CGx) (c : CSx) : CSx := fun C sc hc => ci C.xp sc hc fun ds hc1 => forW g c ds C sc hc1
theorem cs_for {ci : CIx} {g : CGx} (hp : PassesOwn (model X.prog X.w) X.A X.env X.xe) (hcl : X.calm = true) (hi : CI X W tg iter ci) (hg : CG X W tg g) (hb : CSs X W body c) (hs : ∀ x, foldedSetIterable iter X.env x = pure x := by intro _; rfl) : CS X W (.For tg iter body [] pos) (cFor ci g c) :=
  ⟨ps_wk (ps_for hp hcl hi.p hg.p hb.p hs) fun D σ H ⟨en, sc, hc, m, C, r, k, f⟩ => by
    refine ⟨en, sc, hc, m, C.xp, _, r, k, f.xp, fun ds hc0 k0 J H0 m0 x0 yl => ?_⟩
    have r0 := r.call x0
    have s0 := x0.stp
    refine ⟨fun i mm σ' H' => ∃ sc' hc' m', Rs X.K en σ' H' sc' hc' m' ∧ Stp H0 m0 H' m' ∧ mm = ds.length - i ∧ i ≤ ds.length ∧ forW g c (ds.drop i) C sc' hc', ⟨_, sc, hc0, m0, r0, .refl, rfl, Nat.zero_le _, k0⟩, ?_⟩
    rintro i mm σ1 H1 ⟨sc1, hc1, m1, r1, s1, rfl, hi, k1⟩
    obtain ⟨yg, ys⟩ := yl H1 m1 r1.mu s1 i
    by_cases lt : i < ds.length
    · rw [List.drop_eq_getElem_cons lt] at k1
      obtain ⟨go, yy⟩ := yg _ (List.getElem?_eq_getElem lt)
      refine .inr ⟨go, fun σ' H' => ∃ sc' hc' m', Rs X.K en σ' H' sc' hc' m' ∧ Stp H0 m0 H' m' ∧ forW g c (ds.drop (i + 1)) C sc' hc', fun σ' H' ⟨sc', hc', m', r', s', k'⟩ => ⟨ds.length - (i + 1), by omega, sc', hc', m', r', s', rfl, lt, k'⟩, fun x H2 y => ?_⟩
      obtain ⟨sm, q⟩ := yy x H2 y
      have s2 := s1.trans (.same sm)
      refine ⟨en, sc1, hc1, m1, C.xp, _, _, r1.same sm, q, k1, f.xp, fun sc2 hc2 k2 σ2 H3 m3 r3 s3 => ?_⟩
      have s23 := s2.trans s3
      exact ⟨en, sc2, hc2, m3, _, r3, k2, ⟨fun sc' hc' p' σ' H' m' r' s' => ⟨sc', hc', m', r', s23.trans s', p'⟩, f.nx.step (s0.trans s23), fun sc' hc' p' σ' H' m' r' s' => ⟨sc', hc', m', r', s23.trans s', p'⟩, f.rt, f.xp⟩⟩
    · have e : i = ds.length := by omega
      rw [List.drop_eq_nil_of_le (by omega)] at k1
      exact .inl ⟨ys (by omega), f.nx sc1 hc1 k1 σ1 H1 m1 r1 (s0.trans s1)⟩⟩
def rngD (lo hi : Int) : List D := (List.range (hi - lo).toNat).map fun k : Nat => D.int (lo + (k : Int))
theorem rng_yields {K : PySem.W.Frag} {H : Hp} {m : Ms} (lo hi : Int) : Yields K (Itr lo (hi - lo).toNat) (rngD lo hi) H m := fun H2 m2 mo s2 i => by
  refine ⟨fun d e => ?_, fun hl => ?_⟩
  · unfold rngD at e
    rw [List.getElem?_map] at e
    by_cases lt : i < (hi - lo).toNat
    · rw [List.getElem?_range lt] at e
      cases e
      refine ⟨lt, fun x H3 y => ?_⟩
      obtain ⟨e1, e2⟩ := y
      subst e1; subst e2
      exact ⟨.refl _, rep_int⟩
    · rw [List.getElem?_eq_none (by rw [List.length_range]; omega)] at e
      cases e
  · unfold rngD at hl
    rw [List.length_map, List.length_range] at hl
    exact hl
def cR1 (ca : CAx) : CIx := fun E sc hc P => ca E sc hc fun ds hc1 => match ds with | [.int hi] => P (rngD 0 hi) hc1 | _ => False
def cR2 (ca : CAx) : CIx := fun E sc hc P => ca E sc hc fun ds hc1 => match ds with | [.int lo, .int hi] => P (rngD lo hi) hc1 | _ => False
theorem ci_r1 {p2 : Pos} (hm : X.mg "range" = none) (h : CA X W [e] ca) (hg : Gl X "range" := by rfl) (hs : starEach [e] X.env = [(false, eval e X.env)] := by rfl) : CI X W tg (.Call (.Name "range" p2) [e] [] pos) (cR1 ca) := ⟨pi_wk (piR1 hg hm h.p hs) fun σ H R ⟨en, sc, hc, m, E, P, r, k, xo, fin⟩ =>
  ⟨en, sc, hc, m, E, _, r, k, xo, fun ds hc1 p vs H1 m1 x1 q => by
    split at p
    · unfold RepL at q
      obtain ⟨v, _, rfl, q1, q⟩ := q
      unfold RepL at q; unfold Rep at q1
      subst q; subst q1
      rename_i hi
      refine ⟨hi, rfl, ?_⟩
      have z : (hi - 0).toNat = hi.toNat := by rw [Int.sub_zero]
      have yl := rng_yields (K := X.K) (H := H1) (m := m1) 0 hi
      rw [z] at yl
      exact fin _ hc1 p _ H1 m1 x1 yl
    · exact p.elim⟩⟩
theorem ci_r2 {e2 : Expr} {p2 : Pos} (hm : X.mg "range" = none) (h : CA X W [e, e2] ca) (hg : Gl X "range" := by rfl) (hs : starEach [e, e2] X.env = [(false, eval e X.env), (false, eval e2 X.env)] := by rfl) (hs2 : starEach [e2] X.env = [(false, eval e2 X.env)] := by rfl) : CI X W tg (.Call (.Name "range" p2) [e, e2] [] pos) (cR2 ca) := ⟨pi_wk (piR2 hg hm h.p hs hs2) fun σ H R ⟨en, sc, hc, m, E, P, r, k, xo, fin⟩ =>
  ⟨en, sc, hc, m, E, _, r, k, xo, fun ds hc1 p vs H1 m1 x1 q => by
    split at p
    · unfold RepL at q
      obtain ⟨v, _, rfl, q1, q⟩ := q
      unfold RepL at q
      obtain ⟨v2, _, rfl, q2, q⟩ := q
      unfold RepL at q; unfold Rep at q1 q2
      subst q; subst q1; subst q2
      exact ⟨_, _, rfl, fin _ hc1 p _ H1 m1 x1 (rng_yields _ _)⟩
    · exact p.elim⟩⟩
end
end Mn
namespace Mn
open PySem PySem.Spec PyProof.Rows L2
def wipeC (sc : List Sl) : List Nat → List Sl
  | [] => sc
  | v :: vs => (wipeC sc vs).set v .un
theorem wipeC_len (sc : List Sl) : ∀ vs : List Nat, (wipeC sc vs).length = sc.length
  | [] => rfl
  | v :: vs => by unfold wipeC; rw [List.length_set, wipeC_len sc vs]
theorem wipeC_get {sc : List Sl} {i : Nat} {x : Sl} : ∀ {vs : List Nat}, (wipeC sc vs)[i]? = some x → x ≠ .un → sc[i]? = some x ∧ i ∉ vs
  | [], h, _ => ⟨h, by simp⟩
  | v :: vs, h, hx => by
    unfold wipeC at h
    by_cases hi : v = i
    · subst hi
      by_cases l : v < (wipeC sc vs).length
      · rw [List.getElem?_set_self l] at h; cases h; exact absurd rfl hx
      · rw [List.getElem?_eq_none (by rw [List.length_set]; omega)] at h; cases h
    · rw [List.getElem?_set_ne hi] at h
      obtain ⟨a, b⟩ := wipeC_get h hx
      exact ⟨a, fun z => by rcases List.mem_cons.mp z with z | z; exact hi z.symm; exact b z⟩
theorem wipe_get {σ : L2.St} {i : Nat} : ∀ {vs : List Nat}, i ∉ vs → (wipe σ vs)[i]? = σ[i]?
  | [], _ => rfl
  | v :: vs, h => by
    unfold wipe
    rw [List.getElem?_set_ne (fun z => h (by rw [z]; exact List.mem_cons_self)), wipe_get (fun z => h (List.mem_cons_of_mem _ z))]
theorem Rs.wipe {K : PySem.W.Frag} {en : En} {σ : L2.St} {H : Hp} {sc : List Sl} {hc : CH} {m : Ms} (r : Rs K en σ H sc hc m) (vs : List Nat) : Rs K en (L2.wipe σ vs) H (wipeC sc vs) hc m := by
  refine ⟨r.toEx, fun i d e => ?_, fun i ds e => ?_, fun i j ds es p e1 e2 e3 e4 => ?_, by rw [wipeC_len, wipe_length]; exact r.len⟩
  · obtain ⟨a, b⟩ := wipeC_get e (fun z => nomatch z)
    rw [wipe_get b]
    exact r.slot i d a
  · obtain ⟨a, b⟩ := wipeC_get e (fun z => nomatch z)
    rw [wipe_get b]
    exact r.own i ds a
  · obtain ⟨a, b⟩ := wipeC_get e1 (fun z => nomatch z)
    obtain ⟨a2, b2⟩ := wipeC_get e2 (fun z => nomatch z)
    rw [wipe_get b] at e3
    rw [wipe_get b2] at e4
    exact r.sep i j ds es p a a2 e3 e4
def LGk (X : Cx) (W : WX) (vs : List Nat) (g : CGx) : TG := fun v σ H Q => ∃ en sc hc m E d P, Rs X.K en σ H sc hc m ∧ Rep X.K H m d v ∧ g E d sc hc P ∧ XOk X W en E ∧
  ∀ sc' hc', P sc' hc' → ∀ σ', Rs X.K en σ' H sc' hc' m → hc' = hc → L2.wipe σ' vs = L2.wipe σ vs → Q σ' H
structure CGk (X : Cx) (W : WX) (vs : List Nat) (e : Expr) (g : CGx) : Prop where
  p : PG X e (LGk X W vs g)
theorem wipe_in {j : Nat} : ∀ {vs : List Nat} (τ : L2.St), j ∈ vs → (L2.wipe τ vs)[j]? = if j < τ.length then some none else none
  | [], _, h => by simp at h
  | a :: r, τ, h => by
    unfold L2.wipe
    by_cases ha : a = j
    · subst ha
      by_cases l : a < τ.length
      · rw [if_pos l, List.getElem?_set_self (by rw [wipe_length]; exact l)]
      · rw [if_neg l, List.getElem?_eq_none (by rw [List.length_set, wipe_length]; omega)]
    · rw [List.getElem?_set_ne ha]
      rcases List.mem_cons.mp h with z | z
      · exact absurd z.symm ha
      · exact wipe_in τ z
theorem wipe_set {σ : L2.St} {i : Nat} {v : Option V} {vs : List Nat} (h : i ∈ vs) : L2.wipe (σ.set i v) vs = L2.wipe σ vs := by
  refine List.ext_getElem? fun j => ?_
  by_cases hj : j ∈ vs
  · rw [wipe_in _ hj, wipe_in _ hj, List.length_set]
  · rw [wipe_get hj, wipe_get hj, List.getElem?_set_ne (fun z => hj (by rw [← z]; exact h))]
section
variable {X : Cx} {W : WX} {a b e tg iter elt : Expr} {es ifs : List Expr} {ca cb ce : CEx} {ct : CTx} {c : CAx} {pos : Pos} {vs : List Nat}
theorem wipe_idem (σ : L2.St) (vs : List Nat) : L2.wipe (L2.wipe σ vs) vs = L2.wipe σ vs := by
  refine List.ext_getElem? fun j => ?_
  by_cases hj : j ∈ vs
  · rw [wipe_in _ hj, wipe_in _ hj, wipe_length]
  · rw [wipe_get hj]
theorem cgk_n (i : Nat) {x : Str} (hN : X.N.Nodup) (hm : i ∈ vs := by decide) (hi : X.N[i]? = some x := by rfl) (hx : Loc X.env.scope x := by first | exact Or.inl rfl | exact Or.inr rfl) (hf : X.fn x = true ∨ X.env.scope.names.lookup x = some .local := by first | exact .inl rfl | exact .inr rfl) : CGk X W vs (.Name x pos) (gN i) :=
  ⟨pg_wk (pg_name hN hi hx hf) fun v σ H Q ⟨en, sc, hc, m, E, d, P, r, q, k, xo, f⟩ => f _ hc k _ (r.put i q) rfl (wipe_set hm)⟩
def lcW (g : CGx) (t : CTx) (ce : CEx) (own : List Nat) (sc : List Sl) : List D → List D → CH → (List D → CH → Prop) → Prop
  | [], acc, hc, P => P acc hc
  | d :: ds, acc, hc, P => g (fun _ _ _ => False) d (wipeC sc own) hc fun sc1 hc1 => t (fun _ _ _ => False) sc1 hc1 fun b hc2 =>
    if b = true then ce (fun _ _ _ => False) sc1 hc2 fun y hc3 => lcW g t ce own sc ds (acc ++ [y]) hc3 P else lcW g t ce own sc ds acc hc2 P
def cLc (ci : CIx) (g : CGx) (t : CTx) (ce : CEx) (own : List Nat) : CEx := fun E sc hc P => ci E sc hc fun ds hc1 => ds.length ≤ sizeLine ∧ lcW g t ce own sc ds [] hc1 fun out hc2 => P (.lst out) hc2
structure CTs (X : Cx) (W : WX) (es : List Expr) (c : CTx) : Prop where
  p : PTs X es (LT X W c)
def cYes : CTx := fun _ _ hc P => P true hc
theorem cts_nil : CTs X W [] cYes := ⟨⟨fun pins s σ H Q I ⟨en, sc, hc, m, E, P, r, k, xo, fin⟩ => pts_nil.run pins s σ H Q I (fin _ hc k H m (.refl r.toWd))⟩⟩
theorem cts_one (h : CT X W e ct) : CTs X W [e] ct := ⟨pts_one h.p⟩
theorem lc_gen {ci : CIx} {g : CGx} {σ : L2.St} {H : Hp} {Q : VK} {en : En} {sc : List Sl} {hc : CH} {m : Ms} {E : XP} {P : List D → CH → Prop} (r : Rs X.K en σ H sc hc m)
    (k : ci E sc hc fun ds hc1 => ds.length ≤ sizeLine ∧ lcW g ct ce vs sc ds [] hc1 P) (xo : XOk X W en E)
    (fin : ∀ acc hc', P acc hc' → ∀ L H' m' ws, Ex X.K ⟨H, hc, m⟩ H' hc' m' → m' L → hc' L = none → H' L = some (.lst ws) → RepL X.K H' m' acc ws → H L = none → Q (.ref L) H')
    : tLc (LI X W ci) (LGk X W0 vs g) (LT X W0 ct) (LE X W0 ce) vs σ H Q := by
  refine ⟨en, sc, hc, m, E, _, r, k, xo, fun ds hc1 ⟨lz, k1⟩ J H1 m1 x1 yl L nL => ?_⟩
  have hx : XOk X W0 en (fun _ _ _ => False) := fun _ _ _ z => z.elim
  have w1 : Wd X.K H1 hc1 m1 := x1.toWd
  have hL : hc1 L = none := hc_none w1 nL
  have nm : ¬ m1 L := fun z => by obtain ⟨us, e, _⟩ := w1.mu L z; rw [nL] at e; cases e
  have st0 : Stp H1 m1 (upd H1 L (.lst [])) (fun a => m1 a ∨ a = L) := ⟨fun a o e _ _ => same_upd nL a o e, fun a z => z.elim .inl fun e => .inr (by rw [e]; exact nL), fun a o e => by rw [same_upd nL a o e]; simp⟩
  have ex0 : Ex X.K ⟨H1, hc1, m1⟩ (upd H1 L (.lst [])) hc1 (fun a => m1 a ∨ a = L) := by
    refine ⟨⟨tabs_put w1.tab (.inl nL), fun a z => ?_, fun a es e => .inl (w1.hm a es e), fun a es e => ?_⟩, w1.mu, w1.hm, fun a o e _ _ => same_upd nL a o e, st0.grow, fun a z _ => .inl z, fun a es e => .inl (by show hc1 a ≠ none; rw [e]; simp), fun a o e => by rw [same_upd nL a o e]; simp⟩
    · rcases z with z | rfl
      · obtain ⟨ws, e, im⟩ := w1.mu a z
        exact ⟨ws, same_upd nL _ _ e, im⟩
      · exact ⟨_, upd_same, trivial⟩
    · exact (w1.heap a es e).map (fun o e1 _ => same_upd nL _ _ e1) fun es vs q1 => RepL.mono w1.mu st0 _ _ q1
  refine ⟨fun i mm H' => ∃ hc' m' acc ws, Ex X.K ⟨H1, hc1, m1⟩ H' hc' m' ∧ m' L ∧ hc' L = none ∧ H' L = some (.lst ws) ∧ RepL X.K H' m' acc ws ∧ mm = ds.length - i ∧ i ≤ ds.length ∧ acc.length ≤ i ∧ lcW g ct ce vs sc (ds.drop i) acc hc' P,
    ⟨_, hc1, _, [], [], ex0, .inr rfl, hL, upd_same, RepL.nil, rfl, Nat.zero_le _, Nat.le_refl _, k1⟩, ?_⟩
  rintro i mm H' ⟨hc', m', acc, ws, x', mL, hL', HL, ra, rfl, hi, hacc, k'⟩
  have xx : Ex X.K ⟨H, hc, m⟩ H' hc' m' := x1.trans x'
  have r' := r.call xx
  obtain ⟨yg, ys⟩ := yl H' m' x'.mu x'.stp i
  by_cases lt : i < ds.length
  · rw [List.drop_eq_getElem_cons lt] at k'
    obtain ⟨go, yy⟩ := yg _ (List.getElem?_eq_getElem lt)
    refine .inr ⟨go, fun H2 => ∃ hc2 m2 acc ws, Ex X.K ⟨H1, hc1, m1⟩ H2 hc2 m2 ∧ m2 L ∧ hc2 L = none ∧ H2 L = some (.lst ws) ∧ RepL X.K H2 m2 acc ws ∧ acc.length ≤ i + 1 ∧ lcW g ct ce vs sc (ds.drop (i + 1)) acc hc2 P,
      fun H2 ⟨hc2, m2, acc, ws, a1, a2, a3, a4, a5, a6, a7⟩ => ⟨ds.length - (i + 1), by omega, hc2, m2, acc, ws, a1, a2, a3, a4, a5, rfl, lt, a6, a7⟩, fun x H2 y => ?_⟩
    obtain ⟨sm, q⟩ := yy x H2 y
    have xs2 : Ex X.K ⟨H', hc', m'⟩ H2 hc' m' := Ex.same x'.toWd sm
    have r2 := (r'.same sm).wipe vs
    refine ⟨en, wipeC sc vs, hc', m', (fun _ _ _ => False), ds[i], _, r2, q, k', hx, fun sc3 hc3 k3 σ3 r3 e3 w3 => ⟨by rw [w3]; exact wipe_idem _ _, ?_⟩⟩
    subst e3
    refine ⟨en, sc3, hc3, m', _, _, r3, k3, hx, fun b hc4 k4 H4 m4 x4 => ?_⟩
    have e34 : Ex X.K ⟨H1, hc1, m1⟩ H4 hc4 m4 := (x'.trans xs2).trans x4
    have keepL : ∀ {Hb : Hp} {hcb : CH} {mb : Ms}, Ex X.K ⟨H', hc3, m'⟩ Hb hcb mb → mb L ∧ hcb L = none ∧ Hb L = some (.lst ws) ∧ RepL X.K Hb mb acc ws := fun {Hb hcb mb} x => by
      refine ⟨x.hold L mL hL', ?_, x.keep L _ HL trivial hL', RepL.mono x'.mu x.stp _ _ ra⟩
      cases e : hcb L with
      | none => rfl
      | some es =>
        rcases x.hgrow L es e with y | y
        · exact absurd hL' y
        · have y' : H' L = none := y
          rw [HL] at y'; cases y'
    cases b with
    | true =>
      rw [if_pos rfl] at k4
      refine iteT ⟨en, sc3, hc4, m4, _, _, r3.call x4, k4, hx, fun y hc5 k5 v H5 m5 x5 q5 => ?_⟩
      obtain ⟨b1, b2, b3, b4⟩ := keepL ((xs2.trans x4).trans x5)
      have e5 : Ex X.K ⟨H1, hc1, m1⟩ H5 hc5 m5 := e34.trans x5
      have lw : ws.length = acc.length := b4.length.symm
      refine ⟨ws, b3, by omega, hc5, m5, acc ++ [y], ws ++ [v], ?_⟩
      have st : Stp H5 m5 (upd H5 L (.lst (ws ++ [v]))) m5 := ⟨fun a o e _ n => by rw [upd_ne (fun z => n (by rw [z]; exact b1))]; exact e, fun _ h => .inl h, fun p o e => upd_some e⟩
      refine ⟨⟨⟨tabs_put e5.tab (.inr ⟨_, b3, trivial⟩), fun a z => ?_, e5.hm, fun a es e => ?_⟩, w1.mu, w1.hm, fun a o e t n => ?_, e5.grow, e5.hold, e5.hgrow, fun a o e => ?_⟩, b1, b2, upd_same, RepL.mono e5.mu st _ _ (b4.append (RepL.one q5)), by rw [List.length_append]; simp; omega, k5⟩
      · by_cases h : a = L
        · subst h; exact ⟨_, upd_same, trivial⟩
        · rw [upd_ne h]; exact e5.mu a z
      · have h : a ≠ L := fun z => by rw [z, b2] at e; cases e
        exact (e5.heap a es e).map (fun o e1 _ => by rw [upd_ne h]; exact e1) fun es vs q1 => RepL.mono e5.mu st _ _ q1
      · rw [upd_ne (fun z => by rw [z] at e; have e' : H1 L = some o := e; rw [nL] at e'; cases e')]
        exact e5.keep a o e t n
      · by_cases h : a = L
        · subst h; rw [upd_same]; simp
        · rw [upd_ne h]; exact e5.live a o e
    | false =>
      rw [if_neg Bool.false_ne_true] at k4
      obtain ⟨b1, b2, b3, b4⟩ := keepL (xs2.trans x4)
      exact iteF ⟨hc4, m4, acc, ws, e34, b1, b2, b3, b4, by omega, k4⟩
  · have e : i = ds.length := by omega
    rw [List.drop_eq_nil_of_le (by omega)] at k'
    refine .inl ⟨ys (by omega), ?_⟩
    have xa : Ex X.K ⟨H, hc, m⟩ H' hc' m' := xx
    have hH : H L = none := by
      cases e : H L with
      | none => rfl
      | some o => exact absurd nL (x1.live L o e)
    exact fin acc hc' k' L H' m' ws xa mL hL' HL ra hH
theorem lc_lift {ci : CIx} {g : CGx} {σ : L2.St} {H : Hp} {Q : VK} (h : LE X W (cLc ci g ct ce vs) σ H Q) : tLc (LI X W ci) (LGk X W0 vs g) (LT X W0 ct) (LE X W0 ce) vs σ H Q := by
  obtain ⟨en, sc, hc, m, E, P, r, k, xo, fin⟩ := h
  refine lc_gen r k xo fun acc hc' k' L H' m' ws xa mL hL' HL ra hH => ?_
  obtain ⟨x6, st6⟩ := xa.drop (p := L) hH hL'
  refine fin _ hc' k' _ H' _ x6 ?_
  unfold Rep
  exact ⟨L, ws, rfl, fun z => z.2 rfl, HL, RepL.mono xa.mu st6 _ _ ra⟩
def cLcM (ci : CIx) (g : CGx) (t : CTx) (ce : CEx) (own : List Nat) : CEx := fun E sc hc P => ci E sc hc fun ds hc1 => ds.length ≤ sizeLine ∧ lcW g t ce own sc ds [] hc1 fun out hc2 => ∀ p, hc2 p = none → P (.ref p) (updc hc2 p out)
theorem lc_liftM {ci : CIx} {g : CGx} {σ : L2.St} {H : Hp} {Q : VK} (h : LE X W (cLcM ci g ct ce vs) σ H Q) : tLc (LI X W ci) (LGk X W0 vs g) (LT X W0 ct) (LE X W0 ce) vs σ H Q := by
  obtain ⟨en, sc, hc, m, E, P, r, k, xo, fin⟩ := h
  refine lc_gen r k xo fun acc hc' k' L H' m' ws xa mL hL' HL ra hH => ?_
  refine fin _ _ (k' L hL') _ H' m' ⟨⟨xa.tab, xa.mu, fun a es e => ?_, fun a es e => ?_⟩, xa.emut, xa.ehm, xa.keep, xa.grow, xa.hold, fun a es e => ?_, xa.live⟩ (by unfold Rep; rfl)
  · unfold updc at e
    by_cases ha : a = L
    · rw [ha]; exact mL
    · rw [if_neg ha] at e; exact xa.hm a es e
  · unfold updc at e
    by_cases ha : a = L
    · rw [if_pos ha] at e; cases e
      subst ha
      exact held_lst HL ra
    · rw [if_neg ha] at e; exact xa.heap a es e
  · unfold updc at e
    by_cases ha : a = L
    · rw [ha]; exact .inr hH
    · rw [if_neg ha] at e; exact xa.hgrow a es e
theorem ce_lc {ci : CIx} {g : CGx} {scope : Scope} {own : List (Str × Nat)} (hc : X.calm = true) (hN : X.N.Nodup) (hi : CI X W tg iter ci) (ok : BlkOk X.N X.env.scope scope own)
    (hg : ∀ (s : Shared) (H : Hp) (C : Addr) (cl : List (Str × Addr)) (fp : List Addr), CGk (X.blk s H scope (compEnvC scope cl C X.env) fp) W0 (own.map (·.2)) tg g)
    (ht : ∀ (s : Shared) (H : Hp) (C : Addr) (cl : List (Str × Addr)) (fp : List Addr), CTs (X.blk s H scope (compEnvC scope cl C X.env) fp) W0 ifs ct)
    (he : ∀ (s : Shared) (H : Hp) (C : Addr) (cl : List (Str × Addr)) (fp : List Addr), CE (X.blk s H scope (compEnvC scope cl C X.env) fp) W0 elt ce) (hs : ∀ x, foldedSetIterable iter X.env x = pure x := by intro _; rfl) :
    CE X W (.ListComp elt [⟨tg, iter, ifs, 0⟩] scope pos) (cLc ci g ct ce (own.map (·.2))) :=
  ⟨pe_wk (pe_lc (g := LGk X W0 (List.map (fun p : Str × Nat => p.2) own) g) (tt := LT X W0 ct) (te := LE X W0 ce) hc hN hi.p ok (fun s H C cl fp => (hg s H C cl fp).p) (fun s H C cl fp => (ht s H C cl fp).p) (fun s H C cl fp => (he s H C cl fp).p) hs) fun σ H Q h => lc_lift h⟩
theorem ce_lcM {ci : CIx} {g : CGx} {scope : Scope} {own : List (Str × Nat)} (hc : X.calm = true) (hN : X.N.Nodup) (hi : CI X W tg iter ci) (ok : BlkOk X.N X.env.scope scope own)
    (hg : ∀ (s : Shared) (H : Hp) (C : Addr) (cl : List (Str × Addr)) (fp : List Addr), CGk (X.blk s H scope (compEnvC scope cl C X.env) fp) W0 (own.map (·.2)) tg g)
    (ht : ∀ (s : Shared) (H : Hp) (C : Addr) (cl : List (Str × Addr)) (fp : List Addr), CTs (X.blk s H scope (compEnvC scope cl C X.env) fp) W0 ifs ct)
    (he : ∀ (s : Shared) (H : Hp) (C : Addr) (cl : List (Str × Addr)) (fp : List Addr), CE (X.blk s H scope (compEnvC scope cl C X.env) fp) W0 elt ce) (hs : ∀ x, foldedSetIterable iter X.env x = pure x := by intro _; rfl) :
    CE X W (.ListComp elt [⟨tg, iter, ifs, 0⟩] scope pos) (cLcM ci g ct ce (own.map (·.2))) :=
  ⟨pe_wk (pe_lc (g := LGk X W0 (List.map (fun p : Str × Nat => p.2) own) g) (tt := LT X W0 ct) (te := LE X W0 ce) hc hN hi.p ok (fun s H C cl fp => (hg s H C cl fp).p) (fun s H C cl fp => (ht s H C cl fp).p) (fun s H C cl fp => (he s H C cl fp).p) hs) fun σ H Q h => lc_liftM h⟩
theorem cs_lc {i : Nat} {y : Str} {py : Pos} {sp2 : Pos} {ci : CIx} {g : CGx} {scope : Scope} {own : List (Str × Nat)} (hc : X.calm = true) (hN : X.N.Nodup) (hi : CI X W tg iter ci) (ok : BlkOk X.N X.env.scope scope own)
    (hg : ∀ (s : Shared) (H : Hp) (C : Addr) (cl : List (Str × Addr)) (fp : List Addr), CGk (X.blk s H scope (compEnvC scope cl C X.env) fp) W0 (own.map (·.2)) tg g)
    (ht : ∀ (s : Shared) (H : Hp) (C : Addr) (cl : List (Str × Addr)) (fp : List Addr), CTs (X.blk s H scope (compEnvC scope cl C X.env) fp) W0 ifs ct)
    (he : ∀ (s : Shared) (H : Hp) (C : Addr) (cl : List (Str × Addr)) (fp : List Addr), CE (X.blk s H scope (compEnvC scope cl C X.env) fp) W0 elt ce) (hy : X.N[i]? = some y := by rfl) (hyl : X.env.scope.names.lookup y = some .local := by rfl)
    (hsw : swapsWith (.ListComp elt [⟨tg, iter, ifs, 0⟩] scope pos) (some (.Name y py)) sp2.line X.env = pure true := by exact sw_true rfl rfl rfl (by decide +kernel)) (hs : ∀ x, foldedSetIterable iter X.env x = pure x := by intro _; rfl) :
    CS X W (.Assign [.Name y py] (.ListComp elt [⟨tg, iter, ifs, 0⟩] scope pos) sp2) (cAsg (cLc ci g ct ce (own.map (·.2))) (gN i)) :=
  ⟨ps_wk (ps_setLc (i := i) (g := LGk X W0 (List.map (fun p : Str × Nat => p.2) own) g) (tt := LT X W0 ct) (te := LE X W0 ce) hc hN hy hyl hsw hi.p ok (fun s H C cl fp => (hg s H C cl fp).p) (fun s H C cl fp => (ht s H C cl fp).p) (fun s H C cl fp => (he s H C cl fp).p) hs) fun D σ H h => by
    obtain ⟨en, sc, hc', m, C, r, k, f⟩ := h
    exact lc_lift ⟨en, sc, hc', m, C.xp, _, r, k, f.xp, fun d hc1 p v H1 m1 x1 q => f.nx _ hc1 p _ H1 m1 ((r.call x1).put i q) x1.stp⟩⟩
end
end Mn
namespace Mn
open PySem PySem.Spec PyProof.Rows L2
theorem wl1 {K : PySem.W.Frag} {H : Hp} {m : Ms} {d : D} {xs : List V} (h : RepWL K H m [d] xs) : ∃ x, xs = [x] ∧ RepW K H m d x := by
  cases h with
  | cons a t => cases t; exact ⟨_, rfl, a⟩
theorem wl2 {K : PySem.W.Frag} {H : Hp} {m : Ms} {d e : D} {xs : List V} (h : RepWL K H m [d, e] xs) : ∃ x y, xs = [x, y] ∧ RepW K H m d x ∧ RepW K H m e y := by
  cases h with
  | cons a t =>
    obtain ⟨y, rfl, b⟩ := wl1 t
    exact ⟨_, _, rfl, a, b⟩
section
variable {X : Cx}
def absD : On := fun ds _ P => match ds with | [.int i] => P (.int (if i < 0 then -i else i)) | _ => False
theorem bf_abs : CallR X (.builtin "abs") (LVn X.K absD) := by
  intro pins s σ H xs us Q I r h
  obtain ⟨hc, m, ds, P, w, h1, f, fin⟩ := h
  unfold absD at f
  split at f
  · obtain ⟨x, rfl, k1⟩ := wl1 h1
    unfold RepW Rep at k1
    subst k1
    exact call_abs pins s σ H _ us Q I r ⟨_, rfl, fin _ f _ _ (.refl H) rep_int⟩
  · exact f.elim
def intFD : On := fun ds _ P => match ds with | [.int i] => P (.int i) | [.bl b] => P (.int (if b then 1 else 0)) | _ => False
theorem bt_int : CallR X (.type "int") (LVn X.K intFD) := by
  intro pins s σ H xs us Q I r h
  obtain ⟨hc, m, ds, P, w, h1, f, fin⟩ := h
  unfold intFD at f
  split at f
  · obtain ⟨x, rfl, k1⟩ := wl1 h1
    unfold RepW Rep at k1
    subst k1
    exact call_int1 pins s σ H _ us Q I r (.inl ⟨_, rfl, fin _ f _ _ (.refl H) rep_int⟩)
  · obtain ⟨x, rfl, k1⟩ := wl1 h1
    unfold RepW Rep at k1
    subst k1
    exact call_int1 pins s σ H _ us Q I r (.inr ⟨_, rfl, fin _ f _ _ (.refl H) rep_int⟩)
  · exact f.elim
def maxD2 : On := fun ds _ P => match ds with | [.int i, .int j] => P (.int (if j > i then j else i)) | _ => False
def minD2 : On := fun ds _ P => match ds with | [.int i, .int j] => P (.int (if j < i then j else i)) | _ => False
theorem bf_max2 (hc : X.calm = true) : CallR X (.builtin "max") (LVn X.K maxD2) := by
  intro pins s σ H xs us Q I r h
  obtain ⟨hc', m, ds, P, w, h1, f, fin⟩ := h
  unfold maxD2 at f
  split at f
  · obtain ⟨x, y, rfl, k1, k2⟩ := wl2 h1
    unfold RepW Rep at k1 k2
    subst k1; subst k2
    exact call_max2 hc pins s σ H _ us Q I r ⟨_, _, rfl, fin _ f _ _ (.refl H) rep_int⟩
  · exact f.elim
theorem bf_min2 (hc : X.calm = true) : CallR X (.builtin "min") (LVn X.K minD2) := by
  intro pins s σ H xs us Q I r h
  obtain ⟨hc', m, ds, P, w, h1, f, fin⟩ := h
  unfold minD2 at f
  split at f
  · obtain ⟨x, y, rfl, k1, k2⟩ := wl2 h1
    unfold RepW Rep at k1 k2
    subst k1; subst k2
    exact call_min2 hc pins s σ H _ us Q I r ⟨_, _, rfl, fin _ f _ _ (.refl H) rep_int⟩
  · exact f.elim
def lenD : On := fun ds hc P => match ds with
  | [.str z] => z.length ≤ sizeLine ∧ P (.int z.length)
  | [.lst xs] => P (.int xs.length)
  | [.tup xs] => P (.int xs.length)
  | [.frz xs] => P (.int xs.length)
  | [.ref a] => oth (hL hc a) fun xs => P (.int xs.length)
  | _ => False
theorem bf_len : CallR X (.builtin "len") (LVn X.K lenD) := by
  intro pins s σ H xs us Q I r h
  obtain ⟨hc, m, ds, P, w, h1, f, fin⟩ := h
  unfold lenD at f
  split at f
  · obtain ⟨x, rfl, k1⟩ := wl1 h1
    unfold RepW Rep at k1
    subst k1
    exact call_len pins s σ H _ us Q I r ⟨_, _, rfl, ⟨f.1, rfl⟩, fin _ f.2 _ _ (.refl H) rep_int⟩
  · obtain ⟨x, rfl, k1⟩ := wl1 h1
    unfold RepW at k1
    obtain ⟨p, vs, rfl, q, rl⟩ := k1
    exact call_len pins s σ H _ us Q I r ⟨_, _, rfl, .inl ⟨vs, .of q, rl.length⟩, fin _ f _ _ (.refl H) rep_int⟩
  · obtain ⟨x, rfl, k1⟩ := wl1 h1
    unfold RepW Rep at k1
    obtain ⟨p, vs, rfl, q, rl⟩ := k1
    exact call_len pins s σ H _ us Q I r ⟨_, _, rfl, .inr ⟨vs, q, rl.length⟩, fin _ f _ _ (.refl H) rep_int⟩
  · obtain ⟨x, rfl, k1⟩ := wl1 h1
    unfold RepW Rep at k1
    obtain ⟨p, vs, rfl, q, rl⟩ := k1
    exact call_len pins s σ H _ us Q I r ⟨_, _, rfl, .inl ⟨vs, q.sq, rl.length⟩, fin _ f _ _ (.refl H) rep_int⟩
  · obtain ⟨x, rfl, k1⟩ := wl1 h1
    unfold RepW Rep at k1
    subst k1
    obtain ⟨ds, e, f⟩ := oth_of f
    obtain ⟨vs, q, rl⟩ := w.heapL e
    exact call_len pins s σ H _ us Q I r ⟨_, _, rfl, .inl ⟨vs, .of q, rl.length⟩, fin _ f _ _ (.refl H) rep_int⟩
  · exact f.elim
def pyTy : D → String
  | .non => "NoneType"
  | .bl _ => "bool"
  | .int _ => "int"
  | .str _ => "str"
  | .tup _ => "tuple"
  | .lst _ => "list"
  | .ref _ => "list"
  | .frz _ => "list"
  | .clo _ _ _ => "function"
  | .exn _ _ _ _ => "function"
  | .fn _ => "function"
  | .dct _ _ => "dict"
  | .ins _ _ _ => "function"
  | .mrk _ _ => "function"
  | .mrd _ _ => "function"
  | .dkl _ _ => "function"
def tyB (a n : String) : Bool := a == n || (a == "bool" && n == "int")
def isTy (n : String) (d : D) : Bool := tyB (pyTy d) n
def isiD (n : String) : O1 := fun d hc P => (match d with | .ref a => hL hc a ≠ none | .clo _ _ _ => False | .exn _ _ _ _ => False | .fn _ => False | .ins _ _ _ => False | .mrk _ _ => False | .mrd _ _ => False | .dkl _ _ => False | _ => True) ∧ P (.bl (isTy n d))
theorem tyx_of {K : PySem.W.Frag} {H : Hp} {hc : CH} {m : Ms} (w : Wd K H hc m) : ∀ {d : D} {v : V}, RepW K H m d v → (match d with | .ref a => hL hc a ≠ none | .clo _ _ _ => False | .exn _ _ _ _ => False | .fn _ => False | .ins _ _ _ => False | .mrk _ _ => False | .mrd _ _ => False | .dkl _ _ => False | _ => True) → TyX K H v (.type (pyTy d))
  | .non, v, h, _ => by unfold RepW Rep at h; subst h; exact .base .non
  | .bl _, v, h, _ => by unfold RepW Rep at h; subst h; exact .base (.bl _)
  | .int _, v, h, _ => by unfold RepW Rep at h; subst h; exact .base (.int _)
  | .str _, v, h, _ => by unfold RepW Rep at h; subst h; exact .base (.str _)
  | .tup _, v, h, _ => by
    unfold RepW Rep at h
    obtain ⟨p, vs, rfl, q, _⟩ := h
    rcases q with (q | ⟨o, q⟩) | ⟨o, its, n, q, c, _⟩
    · exact .base (.tup q)
    · exact .fTuple q
    · exact .kTuple q c
  | .lst _, v, h, _ => by unfold RepW at h; obtain ⟨p, vs, rfl, q, _⟩ := h; exact .base (.lst q)
  | .ref a, v, h, ha => by
    unfold RepW Rep at h
    subst h
    cases e : hL hc a with
    | none => exact absurd e ha
    | some ds =>
      obtain ⟨vs, q, _⟩ := w.heapL e
      exact .base (.lst q)
  | .frz _, v, h, _ => by
    unfold RepW Rep at h
    obtain ⟨p, vs, rfl, q, _⟩ := h
    rcases q with ⟨o, q⟩ | ⟨o, its, n, q, c, _⟩
    · exact .base (.frz q)
    · exact .kList q c
  | .dct _ _, v, h, _ => by unfold RepW Rep at h; obtain ⟨p, vs, rfl, _, q, _⟩ := h; exact .base (.dK q)
  | .clo _ _ _, v, h, ha => False.elim ha
  | .exn _ _ _ _, v, h, ha => False.elim ha
  | .fn _, v, h, ha => False.elim ha
  | .ins _ _ _, v, h, ha => False.elim ha
  | .mrk _ _, v, h, ha => False.elim ha
  | .mrd _ _, v, h, ha => False.elim ha
  | .dkl _ _, v, h, ha => False.elim ha
abbrev tyNs : List String := ["int", "bool", "str", "tuple", "list", "dict"]
theorem kit_tab : ∀ a ∈ "NoneType" :: tyNs, ∀ n ∈ tyNs, kitB a n = some (tyB a n) := by decide +kernel
theorem fn_ty {hc : CH} {d : D} (h : match d with | .ref a => hL hc a ≠ none | .clo _ _ _ => False | .exn _ _ _ _ => False | .fn _ => False | .ins _ _ _ => False | .mrk _ _ => False | .mrd _ _ => False | .dkl _ _ => False | _ => True) : pyTy d ≠ "function" := by
  cases d <;> first | exact h.elim | (unfold pyTy; simp)
theorem kit_all {K : PySem.W.Frag} {n : String} (hn : n ∈ tyNs) (d : D) (hd : pyTy d ≠ "function") : PySem.W.kitOne K (.type (pyTy d)) (.type n) = some (isTy n d) :=
  kit_ty (kit_tab _ (by cases d <;> first | exact absurd rfl hd | simp [pyTy]) n hn)
end
section
variable {X : Cx} {W : WX} {e : Expr} {es : List Expr} {ca : CEx} {pos : Pos}
theorem ce_isi {n : String} {x : Str} {p1 p2 : Pos} (hT : n ∈ tyNs) (hm : X.mg "isinstance" = none) (hm2 : X.mg x = none) (ha : CB X W e ca) (hv2 : bootBuiltins x = some (.type n) := by decide +kernel) (hg : Gl X "isinstance" := by rfl) (hg2 : Gl X x := by rfl) (hn2 : x ≠ "__name__" := by decide) (hd2 : (x == ("__debug__" : Str)) = false := by decide)
    (he : starEach [e, .Name x p2] X.env = (false, eval e X.env) :: starEach [.Name x p2] X.env := by rfl) (he2 : starEach [.Name x p2] X.env = (false, eval (.Name x p2) X.env) :: starEach [] X.env := by rfl) (hpl : (backTo pos (starEach [.Name x p2] X.env)).any (·.1) = false := by rfl) : CE X W (.Call (.Name "isinstance" p1) [e, .Name x p2] [] pos) (cUn (isiD n) ca) :=
  ⟨pe_wk (pe_callB call_isi hg hm (by decide +kernel) (pa_cons ha.p (pa_cons (pe_bltn (v := .ty n) hg2 hm2 hv2 rfl hn2 hd2) pa_nil he2) he) (by decide) (by decide) he hpl) fun σ H Q h => by
    obtain ⟨en, sc, hc, m, E, P, r, k, xo, fin⟩ := h
    refine ⟨en, sc, hc, m, E, _, r, k, xo, fun d hc1 p v H1 m1 x1 q => ?_⟩
    have w1 : Wd X.K H1 hc1 m1 := x1.toWd
    exact ⟨v, .ty n, _, _, _, rfl, .ty n, tyx_of w1 (q.w (r.call x1)) p.1, kit_all hT d (fn_ty p.1), fin _ hc1 p.2 _ H1 m1 x1 rep_bl⟩⟩
end
def startC (N : List Str) (ds : List D) : List Sl := ds.map Sl.val ++ List.replicate (N.length - ds.length) Sl.un
theorem start_rs {K : PySem.W.Frag} {H : Hp} {hc : CH} {m : Ms} {N : List Str} {ds : List D} {vs : List V} (w : Wd K H hc m) (q : RepL K H m ds vs) : Rs K ⟨H, hc, m⟩ (L2.start N vs) H (startC N ds) hc m := by
  have l := q.length
  refine ⟨.refl w, fun i d e => ?_, fun i es e => ?_, fun i j es fs p e1 e2 e3 e4 => ?_, ?_⟩
  · unfold startC at e
    by_cases h : i < ds.length
    · rw [List.getElem?_append_left (by rw [List.length_map]; exact h), List.getElem?_map] at e
      cases e1 : ds[i]? with
      | none => rw [e1] at e; cases e
      | some d' =>
        rw [e1] at e; cases e
        obtain ⟨v, e2, q2⟩ := q.get e1
        refine ⟨v, ?_, q2⟩
        unfold L2.start
        rw [List.getElem?_append_left (by rw [List.length_map, ← l]; exact h), List.getElem?_map, e2]
        rfl
    · rw [List.getElem?_append_right (by rw [List.length_map]; omega), List.getElem?_replicate] at e
      split at e <;> cases e
  · unfold startC at e
    by_cases h : i < ds.length
    · rw [List.getElem?_append_left (by rw [List.length_map]; exact h), List.getElem?_map] at e
      cases e1 : ds[i]? with
      | none => rw [e1] at e; cases e
      | some d' => rw [e1] at e; cases e
    · rw [List.getElem?_append_right (by rw [List.length_map]; omega), List.getElem?_replicate] at e
      split at e <;> cases e
  · unfold startC at e1
    by_cases h : i < ds.length
    · rw [List.getElem?_append_left (by rw [List.length_map]; exact h), List.getElem?_map] at e1
      cases e5 : ds[i]? with
      | none => rw [e5] at e1; cases e1
      | some d' => rw [e5] at e1; cases e1
    · rw [List.getElem?_append_right (by rw [List.length_map]; omega), List.getElem?_replicate] at e1
      split at e1 <;> cases e1
  · unfold L2.start startC
    rw [List.length_append, List.length_append, List.length_map, List.length_map, List.length_replicate, List.length_replicate, l]
section
variable {P : Program} {w : World} {K : PySem.W.Frag} {mg : Str → Option Value} {base : Heap} {x qual : Str} {params : Arguments} {body : List Stmt} {scope : Scope} {dvs : List V} {kws : List (Str × V)} {f : Addr} {fd : FuncData}
abbrev WE (E : XK) : WX := fun cls d _ H => E cls d H
abbrev cxD (P : Program) (w : World) (K : PySem.W.Frag) (mg : Str → Option Value) (base : Heap) (N : List Str) (qual : Str) (scope : Scope) (f : Addr) (cd : Value) (A : Around) (outer : List Env) (s : Shared) (H : Hp) (E : XK) : Cx := cxOf (L2.CX P w) P w K mg base N qual scope f cd A outer s H E
theorem rt_of {k : Nat} {N : List Str} {cd : Value} {A : Around} {outer : List Env} {s : Shared} {H : Hp} {E : XK} (hr : RG k (A.deeper (envOfC qual scope s.heap.objs.size f cd))) : RT k (cxD P w K mg base N qual scope f cd A outer s H E) (WE E) := ⟨hr, takes_of rfl rfl rfl rfl, passes_of rfl⟩
theorem end_of {N : List Str} {cd : Value} {A : Around} {outer : List Env} {s : Shared} {H : Hp} {E : XK} {Q : VK} {hc : CH} {m : Ms} {P' : D → CH → Prop} {PE : Exn → CH → Prop}
    (f1 : ∀ d hc', P' d hc' → ∀ v H' m', Ex K ⟨H, hc, m⟩ H' hc' m' → Rep K H' m' d v → Q v H') (f2 : ∀ x hc', PE x hc' → ∀ cls dx H' m', Ex K ⟨H, hc, m⟩ H' hc' m' → RepXK K mg H' m' x cls dx → E cls dx H') :
    EndOk (cxD P w K mg base N qual scope f cd A outer s H E) (WE E) ⟨H, hc, m⟩ H m { nx := fun _ hc' => P' .non hc', rt := P', xp := fun x _ hc' => PE x hc' } { nx := fun _ H' => Q .non H', rt := Q } :=
  ⟨fun sc' hc' q σ' H' m' r' s' => f1 _ hc' q _ H' m' r'.toEx rep_non, fun _ _ z => z.elim, fun _ _ z => z.elim, fun d hc' q v H' m' x' r' => f1 d hc' q v H' m' x' r', fun x sc hc' px cls d σ' H' m' r' q => f2 x hc' px cls d H' m' r'.toEx q⟩
theorem fn_ok {N ps : List Str} {k : Nat} {sp : Spc} {c : CSx} (F : FunD K x qual params body scope dvs kws f fd) (S : FnScope N ps scope)
    (hb : ∀ (cdv : Value) (A : Around) (outer : List Env) (s : Shared) (H : Hp) (E : XK), RT k (cxD P w K mg base N qual scope f cdv A outer s H E) (WE E) → CSs (cxD P w K mg base N qual scope f cdv A outer s H E) (WE E) body c)
    (hl : ∀ ds hc Q E, sp ds hc Q E → ds.length = ps.length)
    (hp : ∀ ds hc (Q : D → CH → Prop) E, sp ds hc Q E → c { nx := fun _ hc' => Q .non hc', rt := Q, xp := fun x _ hc' => E x hc' } (startC N ds) hc) : FnG P w K mg base (L2.CX P w) (k + 1) f fd ps (toSp K mg sp) := by
  obtain ⟨oc, od, dV, kV, doc, pm, an, cdv, ct, osl, rfl, lk, hcd, _, _⟩ := F.ex
  refine fnG_of lk hcd S (fun vs H Q E ⟨hc, m, ds, P', PE, w', rl, h, _⟩ => by rw [← rl.length]; exact hl ds hc _ _ h) fun A outer s H vs Q E hr ⟨hc, m, ds, P', PE, w', rl, h, f1, f2⟩ => ⟨_, (hb cdv A outer s H E (rt_of hr)).p, ?_⟩
  exact ⟨_, _, hc, m, _, start_rs w' rl, hp ds hc P' PE h, end_of f1 f2⟩
end
end Mn
namespace Mn
open PySem PySem.Spec PyProof.Rows L2
section
variable {X : Cx} {W : WX} {tg e : Expr} {es : List Expr} {ce : CEx} {pos : Pos}
theorem pg_or {t u : TG} (h : PG X e t) (g : PG X e u) : PG X e (fun v σ H Q => t v σ H Q ∨ u v σ H Q) := ⟨fun pins s σ H v w Q I r q => q.elim (h.run pins s σ H v w Q I r) (g.run pins s σ H v w Q I r)⟩
def gUn (n : Nat) (gs : CGsx) : CGx := fun E d sc hc P => match d with
  | .tup xs => xs.length = n ∧ gs E xs sc hc P
  | .lst xs => xs.length = n ∧ gs E xs sc hc P
  | .ref a => oth (hL hc a) fun xs => xs.length = n ∧ gs E xs sc hc P
  | _ => False
theorem cg_u {gs : CGsx} {n k : Nat} (hc : X.calm = true) (h : CGs X W es gs) (hn : (assignEach es X.env).length = n := by rfl) (hst : (assignEach es X.env).findIdx? (·.1) = none := by rfl) : CG X W (.Tuple es k pos) (gUn n gs) :=
  ⟨pg_wk (pg_or (cg_t (n := n) hc h hn hst).p (cg_l (n := n) hc h hn hst).p) fun v σ H Q ⟨en, sc, hc, m, E, d, P, r, q, k, xo, f⟩ => by
    cases d <;> try exact k.elim
    · exact .inl ⟨en, sc, hc, m, E, _, P, r, q, k, xo, f⟩
    · exact .inr ⟨en, sc, hc, m, E, _, P, r, q, k, xo, f⟩
    · exact .inr ⟨en, sc, hc, m, E, _, P, r, q, k, xo, f⟩⟩
theorem pi_seq {te : TE} (h : PE X e te) : PI X tg e (fun σ H R => te σ H fun x H1 => ∃ a, x = .ref a ∧ (((∃ xs, SqL X.K H1 a xs) ∧ R (Itl X.K a) H1) ∨ ((∃ xs, SqT X.K H1 a xs) ∧ R (Itt X.K a) H1))) :=
  ⟨fun pins s σ H R I hw => thn (h.run pins s σ H _ I hw) fun v s1 ⟨x, H1, I1, r1, a, ex, q⟩ => by
    subst ex
    cases r1
    rcases q with ⟨⟨xs, hq⟩, q⟩ | ⟨⟨xs, hq⟩, q⟩
    · obtain ⟨its, _, pl, _⟩ := I1.list hq
      exact wpAny_pyIter_list pl.isList (pi_one I1 (tk := s1.toks) _ (turn_list a _) ⟨_, Heap.get?_push_size _ rfl, rfl, rfl⟩ q)
    · obtain ⟨its, _, pt, _⟩ := I1.tuple hq
      exact wpAny_pyIter_tuple pt (pi_one I1 (tk := s1.toks) _ (turn_tuple a _) ⟨_, Heap.get?_push_size _ rfl, rfl, rfl⟩ q)⟩
def cIt (ce : CEx) : CIx := fun E sc hc P => ce E sc hc fun d hc1 => match d with | .lst xs => P xs hc1 | .tup xs => P xs hc1 | .frz xs => P xs hc1 | _ => False
theorem ci_e (h : CE X W e ce) : CI X W tg e (cIt ce) := ⟨pi_wk (pi_seq h.p) fun σ H R ⟨en, sc, hc, m, E, P, r, k, xo, fin⟩ =>
  ⟨en, sc, hc, m, E, _, r, k, xo, fun d hc1 p v H1 m1 x1 q => by
    have r1 := r.call x1
    have mu1 := r1.mu
    cases d <;> try exact p.elim
    · rename_i xs
      unfold Rep at q
      obtain ⟨a, vs, rfl, q1, q2⟩ := q
      refine ⟨a, rfl, .inr ⟨⟨vs, q1⟩, fin xs hc1 p _ H1 m1 x1 fun H2 m2 mo s2 i => ⟨fun d e => ?_, fun hl => ⟨vs, sqt_step mu1 s2 q1, by rw [← q2.length]; exact hl⟩⟩⟩⟩
      obtain ⟨w, e1, q3⟩ := q2.get e
      have hq := sqt_step mu1 s2 q1
      refine ⟨⟨vs, w, hq, e1⟩, fun x H3 ⟨e3, y⟩ => ?_⟩
      have e4 := y vs hq
      rw [e1] at e4; cases e4
      subst e3
      exact ⟨.refl _, Rep.mono mu1 s2 _ _ q3⟩
    · rename_i xs
      unfold Rep at q
      obtain ⟨a, vs, rfl, na, q1, q2⟩ := q
      refine ⟨a, rfl, .inl ⟨⟨vs, .of q1⟩, fin xs hc1 p _ H1 m1 x1 fun H2 m2 mo s2 i => ⟨fun d e => ?_, fun hl => ⟨vs, .of (s2.keep _ _ q1 trivial na), by rw [← q2.length]; exact hl⟩⟩⟩⟩
      obtain ⟨w, e1, q3⟩ := q2.get e
      have hq := SqL.of (K := X.K) (s2.keep _ _ q1 trivial na)
      refine ⟨⟨vs, w, hq, e1⟩, fun x H3 ⟨e3, y⟩ => ?_⟩
      have e4 := y vs hq
      rw [e1] at e4; cases e4
      subst e3
      exact ⟨.refl _, Rep.mono mu1 s2 _ _ q3⟩
    · rename_i xs
      unfold Rep at q
      obtain ⟨a, vs, rfl, q1, q2⟩ := q
      have hs : ∀ {H2 : Hp} {m2 : Ms}, Stp H1 m1 H2 m2 → SqL X.K H2 a vs := fun {H2 m2} s2 => by
        rcases q1 with ⟨o, q1⟩ | q1
        · exact .inl (.inr ⟨o, s2.keep _ _ q1 trivial fun z => by obtain ⟨w, e, im⟩ := mu1 _ z; rw [q1] at e; cases e; exact im⟩)
        · exact .inr q1
      refine ⟨a, rfl, .inl ⟨⟨vs, q1.sq⟩, fin xs hc1 p _ H1 m1 x1 fun H2 m2 mo s2 i => ⟨fun d e => ?_, fun hl => ⟨vs, hs s2, by rw [← q2.length]; exact hl⟩⟩⟩⟩
      obtain ⟨w, e1, q3⟩ := q2.get e
      have hq := hs s2
      refine ⟨⟨vs, w, hq, e1⟩, fun x H3 ⟨e3, y⟩ => ?_⟩
      have e4 := y vs hq
      rw [e1] at e4; cases e4
      subst e3
      exact ⟨.refl _, Rep.mono mu1 s2 _ _ q3⟩⟩⟩
def FnAt (P : Program) (w : World) (K : PySem.W.Frag) (mg : Str → Option Value) (base : Heap) (k : Nat) (x : Str) (ps : List Str) (sp : Spc) : Prop :=
  ∃ (f : Addr) (fd : FuncData), FnG P w K mg base (L2.CX P w) k f fd ps (toSp K mg sp) ∧ mg x = some (.ref f) ∧ PySem.W.keepIn K (.ref f) = true ∧ Binds K fd ps [] ∧ ∃ (oc : Value) (od : Option Addr) (osl : Array (Option Value)), K.lookup f = some ⟨oc, od, .func fd, osl⟩
theorem FnAt.mono {P : Program} {w : World} {K : PySem.W.Frag} {mg : Str → Option Value} {base : Heap} {j k : Nat} {x : Str} {ps : List Str} {sp : Spc} (h : FnAt P w K mg base j x ps sp) (l : j ≤ k) : FnAt P w K mg base k x ps sp := by
  obtain ⟨f, fd, a, b, c, d⟩ := h
  exact ⟨f, fd, a.mono l, b, c, d⟩
theorem ce_f {x : Str} {p : Pos} {k l : Nat} {ps : List Str} {sp : Spc} {c : CAx} (F : FnAt X.prog X.w X.K X.mg X.base k x ps sp) (hr : RT l X W) (ha : CA X W (e :: es) c) (hl : k ≤ l := by decide)
    (hg : Gl X x := by rfl) (hdb : (x == ("__debug__" : Str)) = false := by decide) (he : starEach (e :: es) X.env = (false, eval e X.env) :: starEach es X.env := by rfl) (hpl : (backTo pos (starEach es X.env)).any (·.1) = false := by rfl) : CE X W (.Call (.Name x p) (e :: es) [] pos) (cCall sp c) := by
  obtain ⟨f, fd, F, hm, hk, hb, _⟩ := F
  exact ce_call F (hr.mono hl) hm hk hb ha hg hdb he hpl
end
def DefAt (K : PySem.W.Frag) (mg : Str → Option Value) (x : Str) (st : Stmt) : Prop := ∃ (f : Addr) (fd : FuncData), FunD K x x (defArgs st) (defBody st) (defScope st) [] [] f fd ∧ mg x = some (.ref f)
theorem fn_at {P : Program} {w : World} {K : PySem.W.Frag} {mg : Str → Option Value} {base : Heap} {x : Str} {st : Stmt} {N ps : List Str} {k : Nat} {sp : Spc} {c : CSx} (F : DefAt K mg x st) (S : FnScope N ps (defScope st))
    (hb : ∀ (f : Addr) (cdv : Value) (A : Around) (outer : List Env) (s : Shared) (H : Hp) (E : XK), RT k (cxD P w K mg base N x (defScope st) f cdv A outer s H E) (WE E) → CSs (cxD P w K mg base N x (defScope st) f cdv A outer s H E) (WE E) (defBody st) c)
    (hl : ∀ ds hc Q E, sp ds hc Q E → ds.length = ps.length) (hp : ∀ ds hc (Q : D → CH → Prop) E, sp ds hc Q E → c { nx := fun _ hc' => Q .non hc', rt := Q, xp := fun x _ hc' => E x hc' } (startC N ds) hc)
    (hbi : ∀ (kV doc pm : Value) (an : Option Addr) (cdv ct : Value) (us : List Value), us.length = ps.length → bindArgs (PySem.W.fnOf x x (defArgs st) (defBody st) (defScope st) .none kV doc pm an cdv ct) ⟨us, []⟩ = pure (ps.zip us)) : FnAt P w K mg base (k + 1) x ps sp := by
  obtain ⟨f, fd, F, hm⟩ := F
  refine ⟨f, fd, fn_ok F S (hb f) hl hp, hm, F.kp, F.bindsN hbi, ?_⟩
  obtain ⟨oc, od, dV, kV, doc, pm, an, cdv, ct, osl, e, lk, _⟩ := F.ex
  exact ⟨oc, od, osl, lk⟩
def spLaw : Spc := fun ds _ Q _ => ∃ ns : List Int, ds = [.frz (ns.map D.int)] ∧ ns.length ≤ 63 ∧ ∀ hc', Q (.bl true) hc'
theorem repl_ints {K : PySem.W.Frag} {H : Hp} {m : Ms} : ∀ ns : List Int, RepL K H m (ns.map D.int) (ns.map V.int)
  | [] => RepL.nil
  | n :: ns => RepL.cons rep_int (repl_ints ns)
end Mn
namespace Mn
open PySem PySem.Spec PyProof.Rows L2
def GlobC (K : PySem.W.Frag) (mg : Str → Option Value) (x : Str) (d : D) : Prop := ∃ u v, mg x = some u ∧ RelV v u ∧ ∀ H m, Rep K H m d v
theorem GlobC.int {K : PySem.W.Frag} {mg : Str → Option Value} {x : Str} {i : Int} (h : ∃ t, mg x = some (.int i t)) : GlobC K mg x (.int i) := by
  obtain ⟨t, h⟩ := h
  exact ⟨_, .int i, h, ⟨t, rfl⟩, fun _ _ => rep_int⟩
theorem GlobC.str {K : PySem.W.Frag} {mg : Str → Option Value} {x : Str} {i : Str} (h : ∃ t, mg x = some (.str i t)) : GlobC K mg x (.str i) := by
  obtain ⟨t, h⟩ := h
  exact ⟨_, .str i, h, ⟨t, rfl⟩, fun _ _ => rep_str⟩
theorem ce_gc {X : Cx} {W : WX} {x : Str} {d : D} {pos : Pos} (h : GlobC X.K X.mg x d) (hg : Gl X x := by rfl) (hd : (x == ("__debug__" : Str)) = false := by decide) : CE X W (.Name x pos) (cC d) := by
  obtain ⟨u, v, hm, r, hr⟩ := h
  exact ce_g hg hm r hr hd
theorem seq_step {c1 c2 : CSx} {C : CEnds} {sc : List Sl} {hc : CH} (h : ∀ N : List Sl → CH → Prop, (∀ sc' hc', c2 C sc' hc' → N sc' hc') → c1 { nx := N, rt := C.rt, bk := C.bk, ct := C.ct, xp := C.xp } sc hc) : cSeq c1 c2 C sc hc :=
  h (fun sc' hc' => c2 C sc' hc') fun _ _ z => z
section
variable {ca cb cc : CEx} {t u : CTx} {c : CAx} {cl ch : COx} {f : O2} {f1 : O1} {fn : On} {g : CGx} {gs : CGsx} {s1 s2 : CSx} {ci : CIx} {E : XP} {sc : List Sl} {hc : CH} {C : CEnds} {i j l : Nat} {d : D} {ds : List D} {P : D → CH → Prop} {PT : Bool → CH → Prop} {PA : List D → CH → Prop} {PS : List Sl → CH → Prop} {PO : Option Int → CH → Prop} {sp : Spc}
theorem e_V : cV i E sc hc P = (match look sc i with | some d => P d hc | none => False) := rfl
theorem e_C : cC d E sc hc P = P d hc := rfl
theorem e_O : cO i E sc hc P = (match lookO sc i with | some ds => P (.lst ds) hc | none => False) := rfl
theorem e_Op : cOp f ca cb E sc hc P = ca E sc hc fun x hc1 => cb E sc hc1 fun y hc2 => f x y hc2 fun d => P d hc2 := rfl
theorem e_Un : cUn f1 ca E sc hc P = ca E sc hc fun x hc1 => f1 x hc1 fun d => P d hc1 := rfl
theorem e_Fn : cFn fn c E sc hc P = c E sc hc fun ds hc1 => fn ds hc1 fun d => P d hc1 := rfl
theorem e_Call : cCall sp c E sc hc P = c E sc hc fun ds hc1 => sp ds hc1 P fun x hc2 => E x sc hc2 := rfl
theorem e_Nil : cNil E sc hc PA = PA [] hc := rfl
theorem e_Cons : cCons ca c E sc hc PA = ca E sc hc fun d hc1 => c E sc hc1 fun ds hc2 => PA (d :: ds) hc2 := rfl
theorem e_Tup : cTup c E sc hc P = c E sc hc fun ds hc1 => ds.length ≤ sizeLine ∧ P (.tup ds) hc1 := rfl
theorem e_Lst : cLst c E sc hc P = c E sc hc fun ds hc1 => ds.length ≤ sizeLine ∧ P (.lst ds) hc1 := rfl
theorem e_NoP : cNoP E sc hc PO = PO none hc := rfl
theorem e_SoP : cSoP ca E sc hc PO = ca E sc hc fun d hc1 => match d with | .int i => PO (some i) hc1 | _ => False := rfl
theorem e_Sl : cSl ca cl ch E sc hc P = ca E sc hc fun x hc1 => cl E sc hc1 fun l hc2 => ch E sc hc2 fun u hc3 => slD x l u hc3 fun d => P d hc3 := rfl
theorem e_T : cT ca E sc hc PT = ca E sc hc fun d hc' => match d with | .bl b => PT b hc' | _ => False := rfl
theorem e_And : cAnd t u E sc hc PT = t E sc hc fun b hc1 => if b = true then u E sc hc1 PT else PT false hc1 := rfl
theorem e_Or : cOr t u E sc hc PT = t E sc hc fun b hc1 => if b = true then PT true hc1 else u E sc hc1 PT := rfl
theorem e_Not : cNot t E sc hc PT = t E sc hc fun b hc1 => PT (!b) hc1 := rfl
theorem e_If : cIf t ca cb E sc hc P = t E sc hc fun b hc1 => if b = true then ca E sc hc1 P else cb E sc hc1 P := rfl
theorem e_gN : gN i E d sc hc PS = PS (sc.set i (.val d)) hc := rfl
theorem e_Asg : cAsg ca g C sc hc = ca C.xp sc hc fun d hc1 => g C.xp d sc hc1 C.nx := rfl
theorem e_Ret : cRet ca C sc hc = ca C.xp sc hc C.rt := rfl
theorem e_RetN : cRetN C sc hc = C.rt .non hc := rfl
theorem e_Next : cNext C sc hc = C.nx sc hc := rfl
theorem e_IfS : cIfS t s1 s2 C sc hc = t C.xp sc hc fun b hc1 => if b = true then s1 C sc hc1 else s2 C sc hc1 := rfl
theorem e_For : cFor ci g s1 C sc hc = ci C.xp sc hc fun ds hc1 => forW g s1 ds C sc hc1 := rfl
theorem e_It : cIt ca E sc hc PA = ca E sc hc fun d hc1 => match d with | .lst xs => PA xs hc1 | .tup xs => PA xs hc1 | .frz xs => PA xs hc1 | _ => False := rfl
theorem e_R1 : cR1 c E sc hc PA = c E sc hc fun ds hc1 => match ds with | [.int hi] => PA (rngD 0 hi) hc1 | _ => False := rfl
theorem e_R2 : cR2 c E sc hc PA = c E sc hc fun ds hc1 => match ds with | [.int lo, .int hi] => PA (rngD lo hi) hc1 | _ => False := rfl
theorem e_Drop : cDrop ca C sc hc = ca C.xp sc hc fun _ hc1 => C.nx sc hc1 := rfl
theorem e_Par : cPar i j c C sc hc = c C.xp sc hc fun ds hc1 => match ds with | [x, y] => C.nx ((sc.set i (.val x)).set j (.val y)) hc1 | _ => False := rfl
theorem e_Par3 : cPar3 i j l c C sc hc = c C.xp sc hc fun ds hc1 => match ds with | [x, y, z] => C.nx (((sc.set i (.val x)).set j (.val y)).set l (.val z)) hc1 | _ => False := rfl
theorem e_App : cApp i ca C sc hc = (match lookO sc i with | some ds => ds.length < sizeLine ∧ ca C.xp sc hc fun d hc1 => C.nx (sc.set i (.own (ds ++ [d]))) hc1 | none => False) := rfl
theorem e_SetO : cSetO i c C sc hc = c C.xp sc hc fun ds hc1 => ds.length ≤ sizeLine ∧ C.nx (sc.set i (.own ds)) hc1 := rfl
theorem e_Give : cGive i s1 C sc hc = (match lookO sc i with | some ds => s1 C (sc.set i (.val (.lst ds))) hc | none => False) := rfl
theorem look_0 {r : List Sl} : look (.val d :: r) 0 = some d := rfl
theorem look_s {x : Sl} {r : List Sl} {n : Nat} : look (x :: r) (n + 1) = look r n := by cases x <;> rfl
theorem lookO_0 {r : List Sl} : lookO (.own ds :: r) 0 = some ds := rfl
theorem lookO_s {x : Sl} {r : List Sl} {n : Nat} : lookO (x :: r) (n + 1) = lookO r n := by cases x <;> rfl
end
theorem ixN_nat {n j : Nat} {i : Int} (hi : i = (j : Int)) (h : j < n) : ixN n i = some j := by
  unfold ixN
  rw [if_pos (by omega), if_pos (by omega)]
  rw [show i.toNat = j by omega]
theorem atI_nat' {xs : List D} {i : Int} {j : Nat} {d : D} (hi : i = (j : Int)) (h : xs[j]? = some d) : atI xs i = some d := by
  have lt : j < xs.length := by
    by_cases l : j < xs.length
    · exact l
    · rw [List.getElem?_eq_none (by omega)] at h; cases h
  unfold atI
  rw [ixN_nat hi lt]
  exact h
theorem atD_nat {xs : List D} {i : Int} {j : Nat} {d : D} {P : D → Prop} (hi : i = (j : Int)) (h : xs[j]? = some d) (q : P d) : oth (atI xs i) P := oth_some (atI_nat' hi h) q
theorem atD_all {xs : List D} {i : Int} {P : D → Prop} (h0 : 0 ≤ i) (h1 : i < xs.length) (q : ∀ j : Nat, ∀ d, i = (j : Int) → xs[j]? = some d → P d) : oth (atI xs i) P :=
  have lt : i.toNat < xs.length := by omega
  atD_nat (j := i.toNat) (by omega) (List.getElem?_eq_getElem lt) (q _ _ (by omega) (List.getElem?_eq_getElem lt))
theorem set_nat {ds : List D} {k : Int} (h0 : 0 ≤ k) (h1 : k < ds.length) : ixN ds.length k = some k.toNat := by
  unfold ixN
  rw [if_pos h0, if_pos h1]
theorem updc_same {hc : CH} {p : Addr} {ds : List D} : updc hc p ds p = some ds := by unfold updc; rw [if_pos rfl]
theorem updc_ne {hc : CH} {p q : Addr} {ds : List D} (h : q ≠ p) : updc hc p ds q = hc q := by unfold updc; rw [if_neg h]
theorem forW_inv {g : CGx} {c : CSx} (I : Nat → List Sl → CH → Prop) : ∀ (ds : List D) (i : Nat) {C : CEnds} {sc : List Sl} {hc : CH}, I i sc hc →
    (∀ (j : Nat) (d : D) sc hc (Nx : List Sl → CH → Prop), ds[j]? = some d → I (i + j) sc hc → (∀ sc' hc', I (i + j + 1) sc' hc' → Nx sc' hc') → g C.xp d sc hc fun sc1 hc1 => c { nx := Nx, ct := Nx, bk := C.nx, rt := C.rt, xp := C.xp } sc1 hc1) →
    (∀ sc hc, I (i + ds.length) sc hc → C.nx sc hc) → forW g c ds C sc hc
  | [], i, C, sc, hc, h, _, q => q sc hc h
  | d :: ds, i, C, sc, hc, h, t, q => by
    refine t 0 d sc hc (fun s h => forW g c ds C s h) rfl h fun sc' hc' k => ?_
    refine forW_inv I ds (i + 1) k (fun j d' s3 h3 Nx e k3 nx => ?_) fun s3 h3 k3 => q s3 h3 (by rw [List.length_cons, show i + (ds.length + 1) = i + 1 + ds.length by omega]; exact k3)
    refine t (j + 1) d' s3 h3 Nx e (by rw [show i + (j + 1) = i + 1 + j by omega]; exact k3) fun sc4 hc4 k4 => nx sc4 hc4 ?_
    rw [show i + 1 + j + 1 = i + (j + 1) + 1 by omega]
    exact k4
theorem for_inv {g : CGx} {c : CSx} (I : Nat → List Sl → CH → Prop) {ds : List D} {C : CEnds} {sc : List Sl} {hc : CH} (h : I 0 sc hc)
    (t : ∀ (j : Nat) (d : D) sc hc (Nx : List Sl → CH → Prop), ds[j]? = some d → I j sc hc → (∀ sc' hc', I (j + 1) sc' hc' → Nx sc' hc') → g C.xp d sc hc fun sc1 hc1 => c { nx := Nx, ct := Nx, bk := C.nx, rt := C.rt, xp := C.xp } sc1 hc1)
    (q : ∀ sc hc, I ds.length sc hc → C.nx sc hc) : forW g c ds C sc hc :=
  forW_inv I ds 0 h (fun j d sc hc Nx e k nx => t j d sc hc Nx e (by rw [Nat.zero_add] at k; exact k) fun s h z => nx s h (by rw [Nat.zero_add]; exact z)) fun sc hc k => q sc hc (by rw [Nat.zero_add] at k; exact k)
theorem wh_inv {t : CTx} {c : CSx} {C : CEnds} (I : Nat → List Sl → CH → Prop)
    (st : ∀ m sc hc (Nx : List Sl → CH → Prop), I m sc hc → (∀ m' sc' hc', m' < m → I m' sc' hc' → Nx sc' hc') → t C.xp sc hc fun b hc1 => if b = true then c { nx := Nx, ct := Nx, bk := C.nx, rt := C.rt, xp := C.xp } sc hc1 else C.nx sc hc1) {m : Nat} {sc : List Sl} {hc : CH} (h : I m sc hc) : cWhile t c C sc hc := by
  have all : ∀ k m sc hc, m < k → I m sc hc → whN t c k C sc hc := by
    intro k
    induction k with
    | zero => intro m sc hc l; omega
    | succ k ih =>
      intro m sc hc l h
      exact st m sc hc (fun s h => whN t c k C s h) h fun m' sc' hc' l' h' => ih m' sc' hc' (by omega) h'
  exact ⟨m + 1, all (m + 1) m sc hc (Nat.lt_succ_self m) h⟩
theorem lcW_inv {g : CGx} {t : CTx} {ce : CEx} {own : List Nat} {sc : List Sl} (I : Nat → List D → CH → Prop) : ∀ (ds : List D) (i : Nat) {acc : List D} {hc : CH} {P : List D → CH → Prop}, I i acc hc →
    (∀ (j : Nat) (d : D) acc hc (Nx : List D → CH → Prop), ds[j]? = some d → I (i + j) acc hc → (∀ acc' hc', I (i + j + 1) acc' hc' → Nx acc' hc') → g (fun _ _ _ => False) d (wipeC sc own) hc fun sc1 hc1 => t (fun _ _ _ => False) sc1 hc1 fun b hc2 =>
      if b = true then ce (fun _ _ _ => False) sc1 hc2 fun y hc3 => Nx (acc ++ [y]) hc3 else Nx acc hc2) →
    (∀ acc hc, I (i + ds.length) acc hc → P acc hc) → lcW g t ce own sc ds acc hc P
  | [], i, acc, hc, P, h, _, q => q acc hc h
  | d :: ds, i, acc, hc, P, h, tn, q => by
    refine tn 0 d acc hc (fun a h => lcW g t ce own sc ds a h P) rfl h fun acc' hc' k => ?_
    refine lcW_inv I ds (i + 1) k (fun j d' s3 h3 Nx e k3 nx => ?_) fun s3 h3 k3 => q s3 h3 (by rw [List.length_cons, show i + (ds.length + 1) = i + 1 + ds.length by omega]; exact k3)
    refine tn (j + 1) d' s3 h3 Nx e (by rw [show i + (j + 1) = i + 1 + j by omega]; exact k3) fun sc4 hc4 k4 => nx sc4 hc4 ?_
    rw [show i + 1 + j + 1 = i + (j + 1) + 1 by omega]
    exact k4
theorem lc_map {i : Nat} {ce : CEx} {own : List Nat} {sc : List Sl} {hc : CH} (f : D → D) {ds : List D} {P : List D → CH → Prop}
    (st : ∀ d ∈ ds, ∀ Nx : D → CH → Prop, Nx (f d) hc → ce (fun _ _ _ => False) ((wipeC sc own).set i (.val d)) hc Nx) (q : P (ds.map f) hc) : lcW (gN i) cYes ce own sc ds [] hc P := by
  refine lcW_inv (fun j acc h => h = hc ∧ acc = (ds.take j).map f) ds 0 ⟨rfl, by simp⟩ (fun j d acc h Nx e ⟨k1, k2⟩ nx => ?_) fun acc h ⟨k1, k2⟩ => ?_
  · subst k1
    rw [Nat.zero_add] at k2 nx
    show (if true = true then ce (fun _ _ _ => False) ((wipeC sc own).set i (.val d)) h (fun y h3 => Nx (acc ++ [y]) h3) else Nx acc h)
    rw [if_pos rfl]
    refine st d (List.mem_of_getElem? e) (fun y h3 => Nx (acc ++ [y]) h3) (nx _ _ ⟨rfl, ?_⟩)
    rw [k2, List.take_add_one, e, List.map_append]
    rfl
  · rw [Nat.zero_add, List.take_length] at k2
    rw [k1, k2]
    exact q
end Mn
namespace Mn
open PySem PySem.Spec PyProof.Rows L2
def okD : Nat → D → Bool
  | _, .non => true
  | _, .int _ => true
  | _, .str s => PyData.canLay0 (.str s)
  | n + 1, .tup xs => xs.all (okD n)
  | n + 1, .lst xs => xs.all (okD n)
  | _, _ => false
theorem okD_bl {m : Nat} {b : Bool} : okD m (.bl b) = false := by cases m <;> rfl
theorem okD_ref {m : Nat} {b : Addr} : okD m (.ref b) = false := by cases m <;> rfl
theorem okD_frz {m : Nat} {b : List D} : okD m (.frz b) = false := by cases m <;> rfl
theorem okD_clo {m : Nat} {f ws xs} : okD m (.clo f ws xs) = false := by cases m <;> rfl
theorem okD_fn {m : Nat} {x} : okD m (.fn x) = false := by cases m <;> rfl
theorem okD_exn {m : Nat} {a dx ns xs} : okD m (.exn a dx ns xs) = false := by cases m <;> rfl
theorem okD_ins {m : Nat} {c ns xs} : okD m (.ins c ns xs) = false := by cases m <;> rfl
theorem okD_mrk {m : Nat} {c ns} : okD m (.mrk c ns) = false := by cases m <;> rfl
theorem okD_dkl {m : Nat} {c ns} : okD m (.dkl c ns) = false := by cases m <;> rfl
theorem okD_mrd {m : Nat} {c ns} : okD m (.mrd c ns) = false := by cases m <;> rfl
theorem okD_dct {m : Nat} {b c} : okD m (.dct b c) = false := by cases m <;> rfl
theorem okD_str {m : Nat} {s : Str} : okD m (.str s) = PyData.canLay0 (.str s) := by cases m <;> rfl
def OkPy (n : Nat) (d : D) : Prop := ∃ p, toPy d = some p ∧ p.canLay0 = true ∧ p.depth ≤ n ∧ ∀ e m q, okD m e = true → toPy e = some q → (PyData.eqv p q = true ↔ d = e)
def OkPyL (n : Nat) (ds : List D) : Prop := ∃ ps, toPyL ds = some ps ∧ PyData.canLayAll0 ps = true ∧ PyData.depthAll ps ≤ n ∧ ∀ es m qs, es.all (okD m) = true → toPyL es = some qs → (PyData.eqvAll ps qs = true ↔ ds = es)
theorem okPyL {n : Nat} (ih : ∀ d, okD n d = true → OkPy n d) : ∀ ds : List D, ds.all (okD n) = true → OkPyL n ds
  | [], _ => ⟨[], rfl, rfl, Nat.zero_le _, fun es m qs h e => by
    cases es with
    | nil => unfold toPyL at e; cases e; exact ⟨fun _ => rfl, fun _ => rfl⟩
    | cons d es =>
      unfold toPyL at e
      split at e
      · cases e; exact ⟨fun z => by simp [PyData.eqvAll] at z, fun z => by cases z⟩
      · cases e⟩
  | d :: ds, h => by
    rw [List.all_cons, Bool.and_eq_true] at h
    obtain ⟨p, e1, c1, l1, k1⟩ := ih d h.1
    obtain ⟨ps, e2, c2, l2, k2⟩ := okPyL ih ds h.2
    refine ⟨p :: ps, by unfold toPyL; rw [e1, e2], by simp [PyData.canLayAll0, c1, c2], by simp [PyData.depthAll]; omega, fun es m qs h' e => ?_⟩
    cases es with
    | nil => unfold toPyL at e; cases e; exact ⟨fun z => by simp [PyData.eqvAll] at z, fun z => by cases z⟩
    | cons d' es =>
      unfold toPyL at e
      rw [List.all_cons, Bool.and_eq_true] at h'
      split at e
      · next q qs' f1 f2 =>
        cases e
        simp only [PyData.eqvAll, Bool.and_eq_true]
        rw [k1 _ m _ h'.1 f1, k2 _ m _ h'.2 f2]
        exact ⟨fun ⟨a, b⟩ => by rw [a, b], fun z => by cases z; exact ⟨rfl, rfl⟩⟩
      · cases e
theorem eqv_no {p q : PyData} (h : PyData.eqv p q = false) {d e : D} (n : d ≠ e) : PyData.eqv p q = true ↔ d = e := by
  rw [h]; exact ⟨fun z => (by cases z), fun z => absurd z n⟩
theorem okPy : ∀ (n : Nat) (d : D), okD n d = true → OkPy n d
  | n, .non, _ => ⟨.none, by unfold toPy; rfl, rfl, by simp [PyData.depth], fun e m q h t => by
    cases e <;> unfold toPy at t <;> (try simp only [okD_bl, okD_ref, okD_frz, okD_dct, Bool.false_eq_true] at h) <;> try (cases t) <;> try exact eqv_no rfl (fun z => nomatch z)
    · exact ⟨fun _ => rfl, fun _ => rfl⟩
    all_goals (first | (obtain ⟨_, _, rfl⟩ := Option.map_eq_some_iff.mp t; exact eqv_no (by simp [PyData.eqv]) (fun z => nomatch z)))⟩
  | n, .int i, _ => ⟨.int i, by unfold toPy; rfl, rfl, by simp [PyData.depth], fun e m q h t => by
    cases e <;> unfold toPy at t <;> (try simp only [okD_bl, okD_ref, okD_frz, okD_dct, Bool.false_eq_true] at h) <;> try (cases t) <;> try exact eqv_no rfl (fun z => nomatch z)
    · simp [PyData.eqv]
    all_goals (first | (obtain ⟨_, _, rfl⟩ := Option.map_eq_some_iff.mp t; exact eqv_no (by simp [PyData.eqv]) (fun z => nomatch z)))⟩
  | n, .str i, g => ⟨.str i, by unfold toPy; rfl, by cases n <;> exact g, by simp [PyData.depth], fun e m q h t => by
    cases e <;> unfold toPy at t <;> (try simp only [okD_bl, okD_ref, okD_frz, okD_dct, Bool.false_eq_true] at h) <;> try (cases t) <;> try exact eqv_no rfl (fun z => nomatch z)
    · simp [PyData.eqv]
    all_goals (first | (obtain ⟨_, _, rfl⟩ := Option.map_eq_some_iff.mp t; exact eqv_no (by simp [PyData.eqv]) (fun z => nomatch z)))⟩
  | n + 1, .tup xs, g => by
    obtain ⟨ps, e1, c1, l1, k1⟩ := okPyL (okPy n) xs g
    refine ⟨.tuple ps, by unfold toPy; rw [e1]; rfl, c1, by simp [PyData.depth]; omega, fun e m q h t => ?_⟩
    cases e <;> unfold toPy at t <;> (try simp only [okD_bl, okD_ref, okD_frz, okD_dct, Bool.false_eq_true] at h) <;> try (cases t) <;> try exact eqv_no (by simp [PyData.eqv]) (fun z => nomatch z)
    · next ys =>
      obtain ⟨qs, e2, rfl⟩ := Option.map_eq_some_iff.mp t
      cases m with
      | zero => simp [okD] at h
      | succ m =>
        simp only [PyData.eqv]
        rw [k1 ys m qs (by simpa [okD] using h) e2]
        exact ⟨fun z => by rw [z], fun z => by cases z; rfl⟩
    · obtain ⟨_, _, rfl⟩ := Option.map_eq_some_iff.mp t; exact eqv_no (by simp [PyData.eqv]) (fun z => nomatch z)
  | n + 1, .lst xs, g => by
    obtain ⟨ps, e1, c1, l1, k1⟩ := okPyL (okPy n) xs g
    refine ⟨.list ps, by unfold toPy; rw [e1]; rfl, c1, by simp [PyData.depth]; omega, fun e m q h t => ?_⟩
    cases e <;> unfold toPy at t <;> (try simp only [okD_bl, okD_ref, okD_frz, okD_dct, Bool.false_eq_true] at h) <;> try (cases t) <;> try exact eqv_no (by simp [PyData.eqv]) (fun z => nomatch z)
    · obtain ⟨_, _, rfl⟩ := Option.map_eq_some_iff.mp t; exact eqv_no (by simp [PyData.eqv]) (fun z => nomatch z)
    · next ys =>
      obtain ⟨qs, e2, rfl⟩ := Option.map_eq_some_iff.mp t
      cases m with
      | zero => simp [okD] at h
      | succ m =>
        simp only [PyData.eqv]
        rw [k1 ys m qs (by simpa [okD] using h) e2]
        exact ⟨fun z => by rw [z], fun z => by cases z; rfl⟩
  | 0, .tup xs, g => by simp [okD] at g
  | 0, .lst xs, g => by simp [okD] at g
  | n, .bl _, g => by rw [okD_bl] at g; cases g
  | n, .ref _, g => by rw [okD_ref] at g; cases g
  | n, .frz _, g => by rw [okD_frz] at g; cases g
  | n, .clo _ _ _, g => by rw [okD_clo] at g; cases g
  | n, .exn _ _ _ _, g => by rw [okD_exn] at g; cases g
  | n, .fn _, g => by rw [okD_fn] at g; cases g
  | n, .ins _ _ _, g => by rw [okD_ins] at g; cases g
  | n, .mrk _ _, g => by rw [okD_mrk] at g; cases g
  | n, .mrd _ _, g => by rw [okD_mrd] at g; cases g
  | n, .dkl _ _, g => by rw [okD_dkl] at g; cases g
  | n, .dct _ _, g => by rw [okD_dct] at g; cases g
theorem shaped_ok {p : PyData} {n : Nat} (c : p.canLay0 = true) (l : p.depth ≤ n) (h : n ≤ 64) : SeqAt.shaped p = true := by
  unfold SeqAt.shaped
  rw [c, decide_eq_true (by omega)]
  rfl
theorem eqG_ok {neg : Bool} {n m : Nat} {x y : D} {P : D → Prop} (hx : okD n x = true) (hy : okD m y = true) (h1 : x = y → P (.bl (!neg))) (h2 : x ≠ y → P (.bl neg)) (hn : n ≤ 64 := by decide) (hm : m ≤ 64 := by decide) : eqG neg x y P := by
  obtain ⟨p, e1, c1, l1, k1⟩ := okPy n x hx
  obtain ⟨q, e2, c2, l2, _⟩ := okPy m y hy
  refine ⟨p, q, e1, e2, shaped_ok c1 l1 hn, shaped_ok c2 l2 hm, ?_⟩
  have k := k1 y m q hy e2
  cases z : PyData.eqv p q with
  | true =>
    have := h1 (k.mp z)
    cases neg <;> exact this
  | false =>
    have := h2 fun w => by rw [k.mpr w] at z; cases z
    cases neg <;> exact this
theorem eqD_ok {x y : D} {hc : CH} {P : D → Prop} (n m : Nat) (hx : okD n x = true) (hy : okD m y = true) (h1 : x = y → P (.bl true)) (h2 : x ≠ y → P (.bl false)) (hn : n ≤ 64 := by decide) (hm : m ≤ 64 := by decide) : eqD x y hc P := by
  unfold eqD
  split
  · next i j =>
    by_cases e : i = j
    · rw [decide_eq_true e]; exact h1 (by rw [e])
    · rw [decide_eq_false e]; exact h2 fun z => e (by cases z; rfl)
  · next i j =>
    by_cases e : i = j
    · rw [decide_eq_true e]; exact h1 (by rw [e])
    · rw [decide_eq_false e]; exact h2 fun z => e (by cases z; rfl)
  · exact h1 rfl
  · exact eqG_ok hx hy h1 h2 hn hm
theorem eqD_same {x : D} {hc : CH} {P : D → Prop} (n : Nat) (hx : okD n x = true) (h : P (.bl true)) (hn : n ≤ 64 := by decide) : eqD x x hc P := eqD_ok n n hx hx (fun _ => h) (fun z => absurd rfl z) hn hn
theorem for_step {ci : CIx} {g : CGx} {s : CSx} {C : CEnds} {sc : List Sl} {hc : CH}
    (h : ∀ R : List D → CH → Prop, (∀ (ds : List D) (hc1 : CH) (I : Nat → List Sl → CH → Prop), I 0 sc hc1 →
      (∀ (j : Nat) (d : D) sc hc (Nx : List Sl → CH → Prop), ds[j]? = some d → I j sc hc → (∀ sc' hc', I (j + 1) sc' hc' → Nx sc' hc') → g C.xp d sc hc fun sc1 hc1 => s { nx := Nx, ct := Nx, bk := C.nx, rt := C.rt, xp := C.xp } sc1 hc1) →
      (∀ sc hc, I ds.length sc hc → C.nx sc hc) → R ds hc1) → ci C.xp sc hc R) : cFor ci g s C sc hc :=
  h (fun ds hc1 => forW g s ds C sc hc1) fun _ _ I b t e => for_inv I b t e
theorem rng_at {hi : Int} {j : Nat} {d : D} (h : (rngD 0 hi)[j]? = some d) : d = .int j ∧ (j : Int) < hi := by
  unfold rngD at h
  rw [List.getElem?_map] at h
  cases e : (List.range (hi - 0).toNat)[j]? with
  | none => rw [e] at h; cases h
  | some x =>
    rw [e] at h
    obtain ⟨hj, hx⟩ := List.getElem?_eq_some_iff.mp e
    rw [List.length_range] at hj
    rw [List.getElem_range] at hx
    subst hx
    cases h
    exact ⟨by show D.int (0 + (j : Int)) = _; rw [Int.zero_add], by omega⟩
theorem rng_at2 {lo hi : Int} {j : Nat} {d : D} (h : (rngD lo hi)[j]? = some d) : d = .int (lo + j) ∧ lo + (j : Int) < hi := by
  unfold rngD at h
  rw [List.getElem?_map] at h
  cases e : (List.range (hi - lo).toNat)[j]? with
  | none => rw [e] at h; cases h
  | some x =>
    rw [e] at h
    obtain ⟨hj, hx⟩ := List.getElem?_eq_some_iff.mp e
    rw [List.length_range] at hj
    rw [List.getElem_range] at hx
    subst hx
    cases h
    exact ⟨rfl, by omega⟩
theorem rng_len {hi : Int} : (rngD 0 hi).length = hi.toNat := by
  unfold rngD
  rw [List.length_map, List.length_range, Int.sub_zero]
theorem rng_len2 {lo hi : Int} : (rngD lo hi).length = (hi - lo).toNat := by
  unfold rngD
  rw [List.length_map, List.length_range]
section
variable {hc : CH} {P : D → Prop} {i j : Int} {a : Addr} {b : Bool} {xs ys : List D} {x y : Str} {C : Int → Int → Prop} {g : Int → Int → Int} {gb : Int → Int → Bool}
theorem o_addI : addD (.int i) (.int j) hc P = P (.int (i + j)) := rfl
theorem o_addS : addD (.str x) (.str y) hc P = (x.length + y.length ≤ sizeLine ∧ P (.str (x ++ y))) := rfl
theorem o_addL : addD (.lst xs) (.lst ys) hc P = (xs.length + ys.length ≤ sizeLine ∧ P (.lst (xs ++ ys))) := rfl
theorem o_addT : addD (.tup xs) (.tup ys) hc P = (xs.length + ys.length ≤ sizeLine ∧ P (.tup (xs ++ ys))) := rfl
theorem o_addR : addD (.ref a) (.lst ys) hc P = oth (hL hc a) fun xs => xs.length + ys.length ≤ sizeLine ∧ P (.lst (xs ++ ys)) := rfl
theorem o_addR' : addD (.lst xs) (.ref a) hc P = oth (hL hc a) fun ys => xs.length + ys.length ≤ sizeLine ∧ P (.lst (xs ++ ys)) := rfl
theorem o_sub : subD (.int i) (.int j) hc P = P (.int (i - j)) := rfl
theorem o_mul : mulD (.int i) (.int j) hc P = (MulOk i j ∧ P (.int (i * j))) := rfl
theorem o_mulL : mulD (.lst xs) (.int i) hc P = ((-(2 ^ 63) ≤ i ∧ i < 2 ^ 63 ∧ xs.length * i.toNat ≤ sizeLine) ∧ P (.lst (List.replicate i.toNat xs).flatten)) := rfl
theorem o_fdiv : fdivD (.int i) (.int j) hc P = (DivOk i j ∧ P (.int (i / j))) := rfl
theorem o_mod : modD (.int i) (.int j) hc P = (0 < j ∧ P (.int (i % j))) := rfl
theorem o_pow : powD (.int i) (.int j) hc P = (CPow i j ∧ P (.int (i ^ j.toNat))) := rfl
theorem o_shl : shlD (.int i) (.int j) hc P = (CShl i j ∧ P (.int (i * 2 ^ j.toNat))) := rfl
theorem o_shr : shrD (.int i) (.int j) hc P = (0 ≤ j ∧ P (.int (i / 2 ^ j.toNat))) := rfl
theorem o_and : andD (.int i) (.int j) hc P = P (.int (Builtin.bitAnd i j)) := rfl
theorem o_or : orD (.int i) (.int j) hc P = P (.int (Builtin.bitOr i j)) := rfl
theorem o_neg : negD (.int i) hc P = P (.int (-i)) := rfl
theorem o_eqI : eqD (.int i) (.int j) hc P = P (.bl (decide (i = j))) := rfl
theorem o_eqS : eqD (.str x) (.str y) hc P = P (.bl (decide (x = y))) := rfl
theorem o_neI : neD (.int i) (.int j) hc P = P (.bl (!decide (i = j))) := rfl
theorem o_neS : neD (.str x) (.str y) hc P = P (.bl (!decide (x = y))) := rfl
theorem o_lt : ltD (.int i) (.int j) hc P = P (.bl (decide (i < j))) := rfl
theorem o_le : leD (.int i) (.int j) hc P = P (.bl (decide (i ≤ j))) := rfl
theorem o_gt : gtD (.int i) (.int j) hc P = P (.bl (decide (j < i))) := rfl
theorem o_ge : geD (.int i) (.int j) hc P = P (.bl (decide (j ≤ i))) := rfl
theorem o_ixL : ixD (.lst xs) (.int i) hc P = oth (atI xs i) P := rfl
theorem o_ixT : ixD (.tup xs) (.int i) hc P = oth (atI xs i) P := rfl
theorem o_ixR : ixD (.ref a) (.int i) hc P = oth (hL hc a) fun xs => oth (atI xs i) P := rfl
theorem o_abs : absD [.int i] hc P = P (.int (if i < 0 then -i else i)) := rfl
theorem o_int : intFD [.int i] hc P = P (.int i) := rfl
theorem o_max : maxD2 [.int i, .int j] hc P = P (.int (if j > i then j else i)) := rfl
theorem o_min : minD2 [.int i, .int j] hc P = P (.int (if j < i then j else i)) := rfl
theorem o_lenL : lenD [.lst xs] hc P = P (.int xs.length) := rfl
theorem o_lenT : lenD [.tup xs] hc P = P (.int xs.length) := rfl
theorem o_lenF : lenD [.frz xs] hc P = P (.int xs.length) := rfl
theorem o_lenR : lenD [.ref a] hc P = oth (hL hc a) fun xs => P (.int xs.length) := rfl
theorem o_slL {lo hi : Option Int} : slD (.lst xs) lo hi hc P = P (.lst (cutX xs lo hi)) := rfl
theorem o_slT {lo hi : Option Int} : slD (.tup xs) lo hi hc P = P (.tup (cutX xs lo hi)) := rfl
theorem o_slF {lo hi : Option Int} : slD (.frz xs) lo hi hc P = P (.lst (cutX xs lo hi)) := rfl
theorem e_Ch {f g : O2} {ca cb cc : CEx} {E : XP} {sc : List Sl} {P : D → CH → Prop} : cCh f g ca cb cc E sc hc P = ca E sc hc fun x hc1 => cb E sc hc1 fun y hc2 => f x y hc2 fun d => match d with
  | .bl true => cc E sc hc2 fun z hc3 => g y z hc3 fun d => P d hc3
  | .bl false => P (.bl false) hc2
  | _ => False := rfl
theorem e_AndV {ca cb : CEx} {E : XP} {sc : List Sl} {P : D → CH → Prop} : cAndV ca cb E sc hc P = ca E sc hc fun d hc1 => match d with | .bl true => cb E sc hc1 P | .bl false => P (.bl false) hc1 | _ => False := rfl
theorem e_OrV {ca cb : CEx} {E : XP} {sc : List Sl} {P : D → CH → Prop} : cOrV ca cb E sc hc P = ca E sc hc fun d hc1 => match d with | .bl true => P (.bl true) hc1 | .bl false => cb E sc hc1 P | _ => False := rfl
theorem e_NotV {ca : CEx} {E : XP} {sc : List Sl} {P : D → CH → Prop} : cNotV ca E sc hc P = ca E sc hc fun d hc1 => match d with | .bl b => P (.bl (!b)) hc1 | _ => False := rfl
theorem at_0 {d : D} : oth (atI (d :: xs) 0) P = P d := by
  have : atI (d :: xs) 0 = some d := atI_nat' (j := 0) rfl rfl
  rw [this]
  exact propext ⟨fun h => by obtain ⟨_, e, h⟩ := oth_of h; cases e; exact h, fun h => oth_some rfl h⟩
theorem at_1 {d e : D} : oth (atI (d :: e :: xs) 1) P = P e := by
  have : atI (d :: e :: xs) 1 = some e := atI_nat' (j := 1) rfl rfl
  rw [this]
  exact propext ⟨fun h => by obtain ⟨_, e, h⟩ := oth_of h; cases e; exact h, fun h => oth_some rfl h⟩
theorem at_2 {d e f : D} : oth (atI (d :: e :: f :: xs) 2) P = P f := by
  have : atI (d :: e :: f :: xs) 2 = some f := atI_nat' (j := 2) rfl rfl
  rw [this]
  exact propext ⟨fun h => by obtain ⟨_, e, h⟩ := oth_of h; cases e; exact h, fun h => oth_some rfl h⟩
end
end Mn
namespace Mn
open PySem PySem.Spec PyProof.Rows L2
def statK (K : PySem.W.Frag) : Bool := (match PySem.W.nsIn K cStatics "sys.int_max_str_digits" with | some none => true | _ => false) && (match K.lookup sysModules with | some ⟨_, _, .dict _ _, _⟩ => true | _ => false)
structure Stat (h : Heap) : Prop where
  lim : ∃ mc, h.Ns cStatics mc ∧ mc "sys.int_max_str_digits" = none
  mods : ∃ o es n, h.get? sysModules = some o ∧ o.data = .dict es n
theorem Stat.keeps {h h' : Heap} (x : Stat h) (k : ∀ b o, h.get? b = some o → h'.get? b = some o) : Stat h' := by
  obtain ⟨⟨mc, ⟨o, es, ep, e1, e2, e3⟩, z⟩, ⟨o2, es2, n, f1, f2⟩⟩ := x
  exact ⟨⟨mc, ⟨o, es, ep, k _ _ e1, e2, e3⟩, z⟩, ⟨o2, es2, n, k _ _ f1, f2⟩⟩
theorem ns_none {K : PySem.W.Frag} {h : Heap} {a : Addr} {m : Str → Option Value} {x : Str} (KX : K.In h) (N : h.Ns a m) (q : PySem.W.nsIn K a x = some none) : m x = none := by
  obtain ⟨ob, ents, pp, g1, g2, _, g3⟩ := N
  unfold PySem.W.nsIn at q
  split at q
  · rename_i cc dd ents2 nn sl kq
    have same := KX _ _ kq
    rw [g1] at same; cases same; cases g2
    split at q
    · cases q
    · rename_i fnd
      rw [← g3 x]
      unfold nsFind findBy
      rw [← Array.find?_toList, fnd]
      rfl
  · cases q
theorem stat_of {K : PySem.W.Frag} {h : Heap} (KX : K.In h) (NL : h.NoLimit) (c : statK K = true) : Stat h := by
  unfold statK at c
  rw [Bool.and_eq_true] at c
  obtain ⟨c1, c2⟩ := c
  constructor
  · obtain ⟨mc, N, _⟩ := NL
    refine ⟨mc, N, ns_none KX N ?_⟩
    revert c1
    cases PySem.W.nsIn K cStatics "sys.int_max_str_digits" with
    | none => intro c1; cases c1
    | some v => cases v with
      | none => intro _; rfl
      | some u => intro c1; cases c1
  · revert c2
    cases q : K.lookup sysModules with
    | none => intro c2; cases c2
    | some o =>
      obtain ⟨oc, od, dt, osl⟩ := o
      intro c2
      cases dt with
      | dict es n => exact ⟨_, es, n, KX _ _ q, rfl⟩
      | _ => cases c2
def obsS (fa : List He.Fa) (fn : List He.DefD) (K : PySem.W.Frag) : He.AlD × Bool := (He.obsD fa fn K, statK K)
def SaysS (fa : List He.Fa) (fn : List He.DefD) (K : PySem.W.Frag) : Prop := obsS fa fn K = (He.valD fn, true)
theorem SaysS.d {fa : List He.Fa} {fn : List He.DefD} {K : PySem.W.Frag} (c : SaysS fa fn K) : He.SaysD fa fn K := congrArg (fun z : He.AlD × Bool => z.1) c
theorem SaysS.s {fa : List He.Fa} {fn : List He.DefD} {K : PySem.W.Frag} (c : SaysS fa fn K) : statK K = true := congrArg (fun z : He.AlD × Bool => z.2) c
def IntTxt (i : Int) : Bool := decide (i.natAbs < 2 ^ 12900)
theorem log_of {i : Int} (h : IntTxt i = true) : i.natAbs.log2 < 12900 := by
  have h := of_decide_eq_true h
  by_cases z : i.natAbs = 0
  · rw [z]; decide
  · exact (Nat.log2_lt z).mpr h
theorem digits_ok {M : Model} {A : Around} {E : Value → Shared → Prop} {s : Shared} {a : Int} {Q : Option Nat → Shared → Prop} (S : Stat s.heap) (h : IntTxt a = true) (k : Q none s) : wpAny M A (Builtin.overDigitLimit? a) Q E s := by
  have hl := log_of h
  unfold Builtin.overDigitLimit?
  by_cases sm : a.natAbs.log2 < 1920
  · rw [if_pos sm]; exact wpAny_pure k
  · rw [if_neg sm]
    obtain ⟨⟨mc, N, z⟩, _⟩ := S
    unfold Builtin.intMaxStrDigits
    refine wpAny_bind (wpAny_bind (wpAny_nsGet N ?_))
    rw [z]
    refine wpAny_pure ?_
    dsimp only
    rw [if_neg (by omega), if_pos (by simp; omega)]
    exact wpAny_pure k
theorem int_meets (a : Int) (t : Tok) (h : IntTxt a = true) : Meets (Builtin.«int.__repr__» ⟨[.int a t], []⟩) (fun _ R s => Stat s.heap ∧ R (.ok (.ret (.str (toString a) s.toks))) { s with toks := s.toks + 1 }) := fun prog w A R s ⟨S, hq⟩ => by
  have hlen : (Str.ofString (toString a)).length ≤ sizeLine := by
    rw [PySem.ofString_length, sizeLine_eq]
    have := int_text_length_le (k := 12900) (by decide) (log_of h)
    omega
  unfold Builtin.«int.__repr__»
  show wpAny _ _ (do let r ← Builtin.overDigitLimit? a; _) _ _ _
  refine wpAny_bind (digits_ok S h ?_)
  exact wpAny_bind (wpAny_mkStr (wpAny_pure hq) hlen)
section
variable {prog : Program} {w : World} {A : Around} {E : Value → Shared → Prop} {s : Shared}
theorem call_intrepr {a : Int} {t : Tok} {Q : Value → Shared → Prop} (S : Stat s.heap) (h : IntTxt a = true) (q : Q (.str (toString a) s.toks) { s with toks := s.toks + 1 }) : wpAny (model prog w) A (call (.builtin "int.__repr__") [.int a t]) Q E s :=
  call_meets F.slot_int_repr (typeIs_int s a t) F.entry_int_repr (F.args_int_repr_1 _) (int_meets a t h) ⟨S, q⟩
end
mutual
def bigP : PyData → Bool
  | .none | .bool _ | .str _ => true
  | .int i => IntTxt i
  | .list xs | .tuple xs => bigPs xs
  | .dict kvs => bigKv kvs
def bigPs : List PyData → Bool
  | [] => true
  | x :: xs => bigP x && bigPs xs
def bigKv : List (PyData × PyData) → Bool
  | [] => true
  | (k, v) :: r => bigP k && (bigP v && bigKv r)
end
theorem bigKv_split : ∀ l : List (PyData × PyData), bigKv l = true → bigPs (l.map Prod.fst) = true ∧ bigPs (l.map Prod.snd) = true
  | [], _ => ⟨rfl, rfl⟩
  | (a, b) :: r, h => by
    unfold bigKv at h
    rw [Bool.and_eq_true, Bool.and_eq_true] at h
    obtain ⟨g1, g2⟩ := bigKv_split r h.2.2
    exact ⟨by show (bigP a && bigPs _) = true; rw [h.1, g1]; rfl, by show (bigP b && bigPs _) = true; rw [h.2.1, g2]; rfl⟩
section
variable {prog : Program} {w : World} {hp : Heap}
theorem intK {i : Int} (t : Tok) (S : Stat hp) (h : IntTxt i = true) (n : Nat) : ReprK prog w [] hp n (.int i t) (toString i) := fun b hb A g E s Q hg _ hu hk hQ => by
  have small : b ≤ sizeLine := by omega
  rw [pyReprUnder_leaf (v := .int i t) small (fun _ e => nomatch e)]
  unfold pyRepr
  refine wpAny_bind (wpAny_pyReprObj_slot (by omega) (typeIs_int s i t) F.slot_int_repr.toG (call_intrepr (S.keeps hk) h ⟨_, _, rfl, ?_⟩))
  exact wpAny_pure (hQ s.heap _ fun _ _ e => e)
abbrev Deep (hp : Heap) (d : PyData) (bs : List Addr) : Prop := ReadAtMost hp d.depth bs
mutual
theorem treeK (S : Stat hp) : ∀ {v : Value} {d : PyData} {as : List Addr}, Reads hp v d as → bigP d = true → sysModules ∉ as → d.shown.length ≤ sizeLine → ∃ bs, Deep hp d bs ∧ ReprK prog w bs hp d.depth v d.shown
  | _, _, _, .none, _, _, _ => ⟨[], (fun _ z => nomatch z), by rw [PyData.shown]; exact .of_is .none _ _ _⟩
  | _, _, _, .bool b, _, _, _ => ⟨[], (fun _ z => nomatch z), by rw [PyData.shown]; exact .of_is (.bool b) _ _ _⟩
  | _, _, _, .int i t, hb, _, _ => ⟨[], (fun _ z => nomatch z), by rw [PyData.shown]; unfold bigP at hb; exact intK t S hb _⟩
  | _, _, _, .str x t, _, _, hl => ⟨[], (fun _ z => nomatch z), by rw [PyData.shown] at hl ⊢; exact .of_is (.str x t hl) _ _ _⟩
  | _, _, _, .list (a := a) (vs := its) (xs := xs) g1 g2 g3 g4, hb, hn, hl => by
    rw [PyData.shown] at hl ⊢
    unfold bigP at hb
    obtain ⟨bs, db, kk⟩ := forestK S g4 hb (fun z => hn (List.mem_cons_of_mem _ z)) (fun t m => Nat.le_trans (listText_mem_le m) hl)
    have whole : Reads hp (.ref a) (.list xs) _ := .list g1 g2 g3 g4
    have deeper : PyData.depthAll xs < (PyData.list xs).depth := by rw [PyData.depth]; omega
    have na := not_mem_of_deeper whole deeper db
    refine ⟨a :: bs, ReadAtMost.cons whole (Nat.le_of_lt deeper) db, ?_⟩
    rw [PyData.depth]
    rcases its with ⟨vals⟩
    match vals, g3, g4, kk with
    | [], g3, g4, kk =>
      have nothing : ReadsAll hp [] xs _ := g4
      cases nothing
      rw [PyData.shownAll, listText_nil]
      exact .listEmpty g1 g2 g3
    | y :: ys, g3, g4, kk => exact .list g1 g2 g3 na (by simpa using kk.length_eq) fun j z e => kk.item j z (by simpa using e)
  | _, _, _, .tuple (a := a) (xs := xs) g1 g2 g3 g4, hb, hn, hl => by
    rw [PyData.shown] at hl ⊢
    unfold bigP at hb
    obtain ⟨bs, db, kk⟩ := forestK S g4 hb hn (fun t m => Nat.le_trans (tupleText_mem_le m) hl)
    have whole : Reads hp (.ref a) (.tuple xs) _ := .tuple g1 g2 g3 g4
    have deeper : PyData.depthAll xs < (PyData.tuple xs).depth := by rw [PyData.depth]; omega
    have na := not_mem_of_deeper whole deeper db
    refine ⟨a :: bs, ReadAtMost.cons whole (Nat.le_of_lt deeper) db, ?_⟩
    rw [PyData.depth]
    exact .tuple g1 g2 g3 na kk
  | _, _, _, .dict (a := a) (es := es) (kvs := l) (as := ka) (bs := va) g1 g2 g3 g4 g5, hb, hn, hl => by
    rw [PyData.shown] at hl ⊢
    unfold bigP at hb
    obtain ⟨hb1, hb2⟩ := bigKv_split l hb
    obtain ⟨bs1, db1, kk1⟩ := forestK S g4 hb1 (fun z => hn (List.mem_append_left _ (List.mem_cons_of_mem _ z))) fun t m => by
      obtain ⟨p, m2, le⟩ := PyData.shownKv_key_le l t m
      exact Nat.le_trans (Nat.le_trans le (dictText_mem_le m2)) hl
    obtain ⟨bs2, db2, kk2⟩ := forestK S g5 hb2 (fun z => hn (List.mem_append_right _ z)) fun t m => by
      obtain ⟨p, m2, le⟩ := PyData.shownKv_val_le l t m
      exact Nat.le_trans (Nat.le_trans le (dictText_mem_le m2)) hl
    have whole : Reads hp (.ref a) (.dict l) _ := .dict g1 g2 g3 g4 g5
    have both : ReadAtMost hp (PyData.depthKv l) (bs1 ++ bs2) := ReadAtMost.append (db1.mono (PyData.depthAll_keys_le l)) (db2.mono (PyData.depthAll_vals_le l))
    have deeper : PyData.depthKv l < (PyData.dict l).depth := by rw [PyData.depth]; omega
    have na := not_mem_of_deeper whole deeper both
    have other : (a == sysModules) = false := beq_eq_false_iff_ne.mpr fun z => hn (List.mem_append_left _ (by rw [z]; exact List.mem_cons_self ..))
    refine ⟨a :: (bs1 ++ bs2), ReadAtMost.cons whole (Nat.le_of_lt deeper) both, ?_⟩
    rw [PyData.depth, PyData.shownKv_eq]
    have r1 := kk1.more_le (as' := bs1 ++ bs2) (fun _ z => List.mem_append_left _ z) (PyData.depthAll_keys_le l)
    have r2 := kk2.more_le (as' := bs1 ++ bs2) (fun _ z => List.mem_append_right _ z) (PyData.depthAll_vals_le l)
    exact .dict g1 g2 g3 other na (.of_two es.toList _ _ r1 r2)
theorem forestK (S : Stat hp) : ∀ {vs : List Value} {ds : List PyData} {as : List Addr}, ReadsAll hp vs ds as → bigPs ds = true → sysModules ∉ as → (∀ t ∈ PyData.shownAll ds, t.length ≤ sizeLine) → ∃ bs, ReadAtMost hp (PyData.depthAll ds) bs ∧ ReprAllK prog w bs hp (PyData.depthAll ds) vs (PyData.shownAll ds)
  | _, _, _, .nil, _, _, _ => ⟨[], (fun _ z => nomatch z), by rw [PyData.shownAll]; exact .nil⟩
  | _, _, _, .cons (d := x) (ds := xs) g1 g2, hb, hn, hl => by
    unfold bigPs at hb
    rw [Bool.and_eq_true] at hb
    rw [PyData.shownAll] at hl ⊢
    rw [PyData.depthAll]
    obtain ⟨bs1, db1, kk1⟩ := treeK S g1 hb.1 (fun z => hn (List.mem_append_left _ z)) (hl _ (List.mem_cons_self ..))
    obtain ⟨bs2, db2, kk2⟩ := forestK S g2 hb.2 (fun z => hn (List.mem_append_right _ z)) fun t m => hl t (List.mem_cons_of_mem _ m)
    have m1 := Nat.le_max_left x.depth (PyData.depthAll xs)
    have m2 := Nat.le_max_right x.depth (PyData.depthAll xs)
    exact ⟨bs1 ++ bs2, (ReadAtMost.mono db1 m1).append (db2.mono m2), .cons ((kk1.more fun _ z => List.mem_append_left _ z).level_le m1) (kk2.more_le (fun _ z => List.mem_append_right _ z) m2)⟩
end
theorem repr_tree {A : Around} {E : Value → Shared → Prop} {s : Shared} {Q : Value → Shared → Prop} {a : Addr} {d : PyData} {as : List Addr} (S : Stat s.heap) (r : Reads s.heap (.ref a) d as) (hb : bigP d = true) (hn : sysModules ∉ as) (hg : A.guards = some []) (hu : A.units + (d.depth + 2) < cLine)
    (hl : d.shown.length ≤ sizeLine) (hQ : ∀ h' u tk, (∀ b o, s.heap.get? b = some o → h'.get? b = some o) → Q (.str d.shown u) { s with heap := h', toks := tk }) : wpAny (model prog w) A (call (.builtin "repr") [.ref a]) Q E s := by
  have under : A.in1.units + d.depth < cLine := by show A.units + 1 + d.depth < cLine; omega
  have g1 : A.in1.guards = some [] := hg
  cases r with
  | list g1' g2 g3 g4 =>
    rename_i o its n xs bs0
    unfold bigP at hb
    rw [PyData.shown] at hl hQ
    rw [PyData.depth] at under
    obtain ⟨bs, db, kk⟩ := forestK (prog := prog) (w := w) S g4 hb (fun z => hn (List.mem_cons_of_mem _ z)) (fun t m => Nat.le_trans (listText_mem_le m) hl)
    have na := not_mem_of_deeper (.list g1' g2 g3 g4) (by rw [PyData.depth]; omega) db
    refine call_repr_slot (T := "list") (idr := "list.__repr__") (by omega) ⟨o, g1', g2⟩ F.slot_list_repr.toG ?_
    rcases its with ⟨vals⟩
    match vals, g3, g4, kk with
    | [], g3, g4, kk =>
      have nothing : ReadsAll s.heap [] xs _ := g4
      cases nothing
      rw [PyData.shownAll, listText_nil] at hQ
      exact call_list_repr_empty ⟨o, g1', g2⟩ g1' g3 ⟨_, _, rfl, hQ s.heap _ _ fun _ _ e => e⟩
    | y :: ys, g3, g4, kk => exact call_list_reprK g1' g2 g3 na (by simpa using kk.length_eq) (fun j z e => kk.item j z (by simpa using e)) g1 (fun b _ => Clear.nil b) under (fun _ _ e => e) (fun h' u tk hk => ⟨_, _, rfl, hQ h' u tk hk⟩) hl
  | tuple g1' g2 g3 g4 =>
    rename_i o its n xs
    unfold bigP at hb
    rw [PyData.shown] at hl hQ
    rw [PyData.depth] at under
    obtain ⟨bs, db, kk⟩ := forestK (prog := prog) (w := w) S g4 hb hn (fun t m => Nat.le_trans (tupleText_mem_le m) hl)
    have na := not_mem_of_deeper (.tuple g1' g2 g3 g4) (by rw [PyData.depth]; omega) db
    refine call_repr_slot (T := "tuple") (idr := "tuple.__repr__") (by omega) ⟨o, g1', g2⟩ F.slot_tuple_repr ?_
    exact call_tuple_reprK g1' g2 g3 na kk g1 (fun b _ => Clear.nil b) under (fun _ _ e => e) (fun h' u tk hk => ⟨_, _, rfl, hQ h' u tk hk⟩) hl
  | dict g1' g2 g3 g4 g5 =>
    rename_i o es n l ka va
    unfold bigP at hb
    rw [PyData.shown] at hl hQ
    rw [PyData.depth] at under
    obtain ⟨hb1, hb2⟩ := bigKv_split l hb
    obtain ⟨bs1, db1, kk1⟩ := forestK (prog := prog) (w := w) S g4 hb1 (fun z => hn (List.mem_append_left _ (List.mem_cons_of_mem _ z))) fun t m => by
      obtain ⟨p, m2, le⟩ := PyData.shownKv_key_le l t m
      exact Nat.le_trans (Nat.le_trans le (dictText_mem_le m2)) hl
    obtain ⟨bs2, db2, kk2⟩ := forestK (prog := prog) (w := w) S g5 hb2 (fun z => hn (List.mem_append_right _ z)) fun t m => by
      obtain ⟨p, m2, le⟩ := PyData.shownKv_val_le l t m
      exact Nat.le_trans (Nat.le_trans le (dictText_mem_le m2)) hl
    have both : ReadAtMost s.heap (PyData.depthKv l) (bs1 ++ bs2) := ReadAtMost.append (db1.mono (PyData.depthAll_keys_le l)) (db2.mono (PyData.depthAll_vals_le l))
    have na := not_mem_of_deeper (.dict g1' g2 g3 g4 g5) (by rw [PyData.depth]; omega) both
    have other : (a == sysModules) = false := beq_eq_false_iff_ne.mpr fun z => hn (List.mem_append_left _ (by rw [z]; exact List.mem_cons_self ..))
    have r1 := kk1.more_le (as' := bs1 ++ bs2) (fun _ z => List.mem_append_left _ z) (PyData.depthAll_keys_le l)
    have r2 := kk2.more_le (as' := bs1 ++ bs2) (fun _ z => List.mem_append_right _ z) (PyData.depthAll_vals_le l)
    rw [PyData.shownKv_eq] at hl hQ
    refine call_repr_slot (T := "dict") (idr := "dict.__repr__") (by omega) ⟨o, g1', g2⟩ F.slot_dict_repr ?_
    exact call_dict_reprK g1' g2 g3 other na (.of_two es.toList _ _ r1 r2) g1 (fun b _ => Clear.nil b) under (fun _ _ e => e) (fun h' u tk hk => ⟨_, _, rfl, hQ h' u tk hk⟩) hl
end
def keyPy : Key → PyData
  | .inl i => .int i
  | .inr x => .str x
mutual
def toPr : D → Option PyData
  | .non => some .none
  | .bl b => some (.bool b)
  | .int i => some (.int i)
  | .str s => some (.str s)
  | .tup xs => (toPrL xs).map .tuple
  | .lst xs => (toPrL xs).map .list
  | .ref _ => none
  | .dct ks xs => (toPrL xs).map fun ps => .dict ((ks.map keyPy).zip ps)
  | .frz _ => none
  | .clo _ _ _ => none
  | .exn _ _ _ _ => none
  | .fn _ => none
  | .ins _ _ _ => none
  | .mrk _ _ => none
  | .mrd _ _ => none
  | .dkl _ _ => none
def toPrL : List D → Option (List PyData)
  | [] => some []
  | d :: ds => match toPr d, toPrL ds with
    | some p, some ps => some (p :: ps)
    | _, _ => none
end
theorem toPrL_len : ∀ {ds : List D} {ps : List PyData}, toPrL ds = some ps → ps.length = ds.length
  | [], ps, h => by unfold toPrL at h; cases h; rfl
  | d :: ds, ps, h => by
    unfold toPrL at h
    split at h
    · rename_i p qs e1 e2
      cases h
      rw [List.length_cons, List.length_cons, toPrL_len e2]
    · cases h
theorem map_fst_zip' {α β : Type} (l : List α) (r : List β) (h : l.length = r.length) : (l.zip r).map Prod.fst = l := List.map_fst_zip (by omega)
theorem map_snd_zip' {α β : Type} (l : List α) (r : List β) (h : l.length = r.length) : (l.zip r).map Prod.snd = r := List.map_snd_zip (by omega)
section
variable {X : Cx} {pins : List (Addr × Obj)} {σ : L2.St} {H : Hp} {s : Shared} {m : Ms}
theorem not_mods (S : Stat s.heap) {a : Addr} {o : Obj} {its : Array Value} {n : Nat} (h : s.heap.get? a = some o) (hd : o.data = .seq its n) : sysModules ≠ a := fun e => by
  obtain ⟨o2, es, n2, f1, f2⟩ := S.mods
  rw [← e] at h
  rw [h] at f1; cases f1
  rw [hd] at f2; cases f2
theorem keys_read {P : Program} {w : World} {h : Heap} : ∀ {es : List DictEntry} {kvs : List (Key × Value)}, Pairs (mixKind P w) es kvs → ReadsAll h (es.map (·.key)) (kvs.map fun p => keyPy p.1) []
  | _, _, .nil => .nil
  | _, _, .cons (e := e) (kv := kv) h1 h2 h3 => by
    rcases keyIs_shape (show keyIs kv.1 e.key = true from h1) with ⟨i, t, e1, e2⟩ | ⟨x, t, e1, e2⟩
    · have r : Reads h e.key (keyPy kv.1) [] := by rw [e1, e2]; exact .int i t
      exact ReadsAll.cons (as := []) (bs := []) r (keys_read h3)
    · have r : Reads h e.key (keyPy kv.1) [] := by rw [e1, e2]; exact .str x t
      exact ReadsAll.cons (as := []) (bs := []) r (keys_read h3)
theorem vals_pairs {P : Program} {w : World} : ∀ {es : List DictEntry} {kvs : List (Key × Value)}, Pairs (mixKind P w) es kvs → es.map (·.val) = kvs.map (·.2)
  | _, _, .nil => rfl
  | _, _, .cons h1 h2 h3 => by rw [List.map_cons, List.map_cons, h2, vals_pairs h3]
theorem kv_parts : ∀ {ks : List Key} {vs : List V} {rs : List (Key × Value)}, ks.length = vs.length → KV (ks.zip vs) rs → rs.map (·.1) = ks ∧ Vals vs (rs.map (·.2))
  | [], [], _, _, h => by cases h; exact ⟨rfl, .nil⟩
  | k :: ks, v :: vs, _, l, h => by
    have h' : KV ((k, v) :: ks.zip vs) _ := h
    cases h' with
    | cons h1 h2 =>
      obtain ⟨a, b⟩ := kv_parts (by simpa using l) h2
      refine ⟨?_, .cons h1.2 b⟩
      rw [List.map_cons, a, ← h1.1]
mutual
theorem readsD (I : Inv X pins σ H s) (S : Stat s.heap) : ∀ (d : D) (v : V) (u : Value) (p : PyData), toPr d = some p → Rep X.K H m d v → RelV v u → ∃ as, Reads s.heap u p as ∧ sysModules ∉ as
  | .non, v, u, p, e, h, r => by unfold toPr at e; unfold Rep at h; cases e; subst h; cases r; exact ⟨_, .none, List.not_mem_nil⟩
  | .bl b, v, u, p, e, h, r => by unfold toPr at e; unfold Rep at h; cases e; subst h; cases r; exact ⟨_, .bool b, List.not_mem_nil⟩
  | .int i, v, u, p, e, h, r => by unfold toPr at e; unfold Rep at h; cases e; subst h; obtain ⟨t, rfl⟩ := r; exact ⟨_, .int i t, List.not_mem_nil⟩
  | .str x, v, u, p, e, h, r => by unfold toPr at e; unfold Rep at h; cases e; subst h; obtain ⟨t, rfl⟩ := r; exact ⟨_, .str x t, List.not_mem_nil⟩
  | .lst xs, v, u, p, e, h, r => by
    unfold toPr at e; unfold Rep at h
    obtain ⟨a, vs, rfl, _, q, rl⟩ := h
    cases r
    cases e2 : toPrL xs with
    | none => rw [e2] at e; cases e
    | some ps =>
      rw [e2] at e; cases e
      obtain ⟨its, rv, ⟨o, n, ho, hc, _, hd⟩, _⟩ := I.list (SqL.of (K := X.K) q)
      obtain ⟨as, hr, hn⟩ := readsDL I S xs vs its ps e2 rl rv
      refine ⟨_, .list ho hc hd hr, fun z => ?_⟩
      rcases List.mem_cons.mp z with z | z
      · exact not_mods S ho hd z
      · exact hn z
  | .tup xs, v, u, p, e, h, r => by
    unfold toPr at e; unfold Rep at h
    obtain ⟨a, vs, rfl, q, rl⟩ := h
    cases r
    cases e2 : toPrL xs with
    | none => rw [e2] at e; cases e
    | some ps =>
      rw [e2] at e; cases e
      obtain ⟨its, rv, ⟨o, ho, hc, n, hd⟩, _⟩ := I.tuple q
      obtain ⟨as, hr, hn⟩ := readsDL I S xs vs its ps e2 rl rv
      exact ⟨_, .tuple ho hc hd hr, hn⟩
  | .dct ks xs, v, u, p, e, h, r => by
    unfold toPr at e; unfold Rep at h
    obtain ⟨a, vs, rfl, _, q, l, rl⟩ := h
    cases r
    cases e2 : toPrL xs with
    | none => rw [e2] at e; cases e
    | some ps =>
      rw [e2] at e; cases e
      obtain ⟨_, hs, rs, kv, o, es, ep, ho, ex, hd, _, pr, _⟩ := dk_of I.hok q
      obtain ⟨k1, k2⟩ := kv_parts l kv
      obtain ⟨as, hr, hn⟩ := readsDL I S xs vs _ ps e2 rl k2
      have lp : (ks.map keyPy).length = ps.length := by rw [List.length_map, l, toPrL_len e2, rl.length]
      have rk : ReadsAll s.heap (es.toList.map (·.key)) (((ks.map keyPy).zip ps).map (·.1)) [] := by
        rw [map_fst_zip' _ _ lp, ← k1, List.map_map]
        exact keys_read pr
      have rvv : ReadsAll s.heap (es.toList.map (·.val)) (((ks.map keyPy).zip ps).map (·.2)) as := by
        rw [map_snd_zip' _ _ lp, vals_pairs pr]
        exact hr
      refine ⟨_, .dict ho ex.1 hd rk rvv, fun z => ?_⟩
      rcases List.mem_append.mp z with z | z
      · rcases List.mem_cons.mp z with z | z
        · exact (beq_eq_false_iff_ne.mp hs) z.symm
        · exact nomatch z
      · exact hn z
  | .ref _, v, u, p, e, h, r => by unfold toPr at e; cases e
  | .frz _, v, u, p, e, h, r => by unfold toPr at e; cases e
  | .clo _ _ _, v, u, p, e, h, r => by unfold toPr at e; cases e
  | .exn _ _ _ _, v, u, p, e, h, r => by unfold toPr at e; cases e
  | .fn _, v, u, p, e, h, r => by unfold toPr at e; cases e
  | .ins _ _ _, v, u, p, e, h, r => by unfold toPr at e; cases e
  | .mrk _ _, v, u, p, e, h, r => by unfold toPr at e; cases e
  | .mrd _ _, v, u, p, e, h, r => by unfold toPr at e; cases e
  | .dkl _ _, v, u, p, e, h, r => by unfold toPr at e; cases e
theorem readsDL (I : Inv X pins σ H s) (S : Stat s.heap) : ∀ (ds : List D) (vs : List V) (us : List Value) (ps : List PyData), toPrL ds = some ps → RepL X.K H m ds vs → Vals vs us → ∃ as, ReadsAll s.heap us ps as ∧ sysModules ∉ as
  | [], vs, us, ps, e, h, r => by unfold toPrL at e; unfold RepL at h; cases e; subst h; cases r; exact ⟨_, .nil, List.not_mem_nil⟩
  | d :: ds, vs, us, ps, e, h, r => by
    unfold toPrL at e; unfold RepL at h
    obtain ⟨v, rr, rfl, h1, h2⟩ := h
    cases r with
    | cons r1 r2 =>
      cases e1 : toPr d with
      | none => rw [e1] at e; cases e
      | some p =>
        cases e2 : toPrL ds with
        | none => rw [e1, e2] at e; cases e
        | some ps' =>
          rw [e1, e2] at e; cases e
          obtain ⟨as, q1, n1⟩ := readsD I S d v _ p e1 h1 r1
          obtain ⟨bs, q2, n2⟩ := readsDL I S ds rr _ ps' e2 h2 r2
          exact ⟨_, .cons q1 q2, fun z => (List.mem_append.mp z).elim n1 n2⟩
end
theorem readsW (I : Inv X pins σ H s) (S : Stat s.heap) : ∀ (d : D) (v : V) (u : Value) (p : PyData), toPr d = some p → RepW X.K H m d v → RelV v u → ∃ as, Reads s.heap u p as ∧ sysModules ∉ as
  | .lst xs, v, u, p, e, h, r => by
    unfold toPr at e; unfold RepW at h
    obtain ⟨a, vs, rfl, q, rl⟩ := h
    cases r
    cases e2 : toPrL xs with
    | none => rw [e2] at e; cases e
    | some ps =>
      rw [e2] at e; cases e
      obtain ⟨its, rv, ⟨o, n, ho, hc, _, hd⟩, _⟩ := I.list (SqL.of (K := X.K) q)
      obtain ⟨as, hr, hn⟩ := readsDL (m := m) I S xs vs its ps e2 rl rv
      refine ⟨_, .list ho hc hd hr, fun z => ?_⟩
      rcases List.mem_cons.mp z with z | z
      · exact not_mods S ho hd z
      · exact hn z
  | .non, v, u, p, e, h, r => readsD (m := m) I S _ v u p e h r
  | .bl _, v, u, p, e, h, r => readsD (m := m) I S _ v u p e h r
  | .int _, v, u, p, e, h, r => readsD (m := m) I S _ v u p e h r
  | .str _, v, u, p, e, h, r => readsD (m := m) I S _ v u p e h r
  | .tup _, v, u, p, e, h, r => readsD (m := m) I S _ v u p e h r
  | .dct _ _, v, u, p, e, h, r => readsD (m := m) I S _ v u p e h r
  | .ref _, v, u, p, e, h, r => by unfold toPr at e; cases e
  | .frz _, v, u, p, e, h, r => by unfold toPr at e; cases e
  | .clo _ _ _, v, u, p, e, h, r => by unfold toPr at e; cases e
  | .exn _ _ _ _, v, u, p, e, h, r => by unfold toPr at e; cases e
  | .fn _, v, u, p, e, h, r => by unfold toPr at e; cases e
  | .ins _ _ _, v, u, p, e, h, r => by unfold toPr at e; cases e
  | .mrk _ _, v, u, p, e, h, r => by unfold toPr at e; cases e
  | .mrd _ _, v, u, p, e, h, r => by unfold toPr at e; cases e
  | .dkl _ _, v, u, p, e, h, r => by unfold toPr at e; cases e
end
end Mn
namespace Mn
open PySem PySem.Spec PyProof.Rows L2
section
variable {X : Cx}
def tupleFD : On := fun ds hc P => match ds with
  | [.lst xs] => P (.tup xs)
  | [.frz xs] => P (.tup xs)
  | [.tup xs] => P (.tup xs)
  | [.ref a] => oth (hL hc a) fun xs => P (.tup xs)
  | _ => False
def listFD : On := fun ds hc P => match ds with
  | [.lst xs] => P (.lst xs)
  | [.frz xs] => P (.lst xs)
  | [.tup xs] => P (.lst xs)
  | _ => False
def revD : O1
  | .lst xs, _, P => P (.lst xs.reverse)
  | _, _, _ => False
end
section
variable {X : Cx} {W : WX} {e : Expr} {ce : CEx} {pos : Pos}
def cParO (i j : Nat) (ca : CEx) : CSx := fun C sc hc => ca C.xp sc hc fun d hc1 => C.nx ((sc.set i (.own [])).set j (.val d)) hc1
end
def Sh (n c : Nat) (d : D) : Prop := ∃ p, toPr d = some p ∧ bigP p = true ∧ p.depth ≤ n ∧ p.shown.length ≤ c
def shw (d : D) : Str := match toPr d with
  | some p => p.shown
  | none => ""
def ShOk (d : D) : Prop := ∃ n c, n ≤ 64 ∧ c ≤ sizeLine ∧ Sh n c d
def reprD : On := fun ds _ P => match ds with
  | [d] => ShOk d ∧ P (.str (shw d))
  | _ => False
theorem bf_repr {X : Cx} {k : Nat} (g : RG k X.A) (st : statK X.K = true) : CallR X (.builtin "repr") (LVn X.K reprD) := by
  intro pins s σ H xs us Q I r h
  obtain ⟨hc', m, ds, P, w, h1, f, fin⟩ := h
  unfold reprD at f
  split at f
  · rename_i d
    obtain ⟨v, rfl, k1⟩ := wl1 h1
    obtain ⟨⟨n, c, hn, hcz, p, ep, sp, dp, lp⟩, q⟩ := f
    unfold shw at q
    rw [ep] at q
    obtain ⟨u, rfl, ru⟩ := vals1 r
    have S : Stat s.heap := stat_of I.kIn I.nolimit st
    obtain ⟨as, rd, nm⟩ := readsW I S d v u p ep k1 ru
    have hz : p.shown.length ≤ sizeLine := by omega
    have done : ∀ (h' : Heap) (t tk : Nat), (∀ b o, s.heap.get? b = some o → h'.get? b = some o) → EP X pins σ Q (.str p.shown t) { s with heap := h', toks := tk } := fun h' t tk hk =>
      ⟨.str p.shown, H, I.kept (t' := tk) hk, ⟨t, rfl⟩, fin _ q _ _ (.refl H) rep_str⟩
    have un := g.r.un
    cases rd with
    | none => exact PySem.P.repr_of_none (done s.heap _ _ fun _ _ e => e)
    | bool b => exact PySem.P.repr_of_bool (done s.heap _ _ fun _ _ e => e)
    | int i t => exact call_repr_slot (T := "int") (idr := "int.__repr__") (by omega) (typeIs_int s i t) F.slot_int_repr.toG (call_intrepr S sp ⟨_, _, rfl, done s.heap _ _ fun _ _ e => e⟩)
    | str x t => exact PySem.P.repr_of_str (done s.heap _ _ fun _ _ e => e) hz
    | list a1 a2 a3 a4 => exact repr_tree S (.list a1 a2 a3 a4) sp nm g.g (by omega) hz (fun h' t tk hk => done h' t tk hk)
    | tuple a1 a2 a3 a4 => exact repr_tree S (.tuple a1 a2 a3 a4) sp nm g.g (by omega) hz (fun h' t tk hk => done h' t tk hk)
    | dict a1 a2 a3 a4 a5 => exact repr_tree S (.dict a1 a2 a3 a4 a5) sp nm g.g (by omega) hz (fun h' t tk hk => done h' t tk hk)
  · exact f.elim
theorem Sh.up {n c n2 c2 : Nat} {d : D} (h : Sh n c d) (hn : n ≤ n2) (hc : c ≤ c2) : Sh n2 c2 d := by
  obtain ⟨p, a, b, f, g⟩ := h
  exact ⟨p, a, b, by omega, by omega⟩
theorem Sh.ok {n c : Nat} {d : D} (h : Sh n c d) (hn : n ≤ 64 := by decide) (hc : c ≤ sizeLine := by decide) : ShOk d := ⟨n, c, hn, hc, h⟩
theorem textFrom_up : ∀ (ts : List Str) (k : Nat) (acc : Str), (textFrom k acc ts).length ≤ acc.length + piled ts
  | [], k, acc => by show acc.length ≤ _; omega
  | t :: r, k, acc => by
    have h := textFrom_up r (k + 1) (acc ++ (if k > 0 then ", " else "" : String) ++ t)
    rw [piled_cons]
    rw [strLen_append, strLen_append] at h
    have e : (((if k > 0 then ", " else "" : String) : Str)).length ≤ 2 := by split <;> decide
    show (textFrom (k + 1) (acc ++ (if k > 0 then ", " else "" : String) ++ t) r).length ≤ _
    omega
theorem piled_up {c : Nat} : ∀ ts : List Str, (∀ t ∈ ts, t.length ≤ c) → piled ts ≤ ts.length * (c + 2)
  | [], _ => by rw [piled_nil]; exact Nat.zero_le _
  | t :: r, h => by
    have h1 := piled_up r fun x hx => h x (List.mem_cons_of_mem _ hx)
    have h2 := h t (List.mem_cons_self ..)
    rw [piled_cons, List.length_cons, Nat.succ_mul]
    omega
theorem listText_len_le (ts : List Str) (c : Nat) (h : ∀ t ∈ ts, t.length ≤ c) : (listText ts).length ≤ ts.length * (c + 2) + 2 ∧ (tupleText ts).length ≤ ts.length * (c + 2) + 3 := by
  have hp := piled_up ts h
  constructor
  · unfold listText
    have h1 := textFrom_up ts 0 "["
    rw [strLen_append]
    have e1 : (("[" : String) : Str).length = 1 := rfl
    have e2 : (("]" : String) : Str).length = 1 := rfl
    rw [e1] at h1
    rw [e2]
    omega
  · unfold tupleText
    rw [strLen_append, strLen_append]
    have e1 : ((("(" : String) : Str)).length = 1 := rfl
    have e3 : (((if ts.length == 1 then ",)" else ")" : String) : Str)).length ≤ 2 := by split <;> decide
    rw [e1]
    by_cases h0 : ts = []
    · subst h0
      have e4 : (Str.join ", " []).length = 0 := rfl
      rw [e4]; omega
    · have := join_length_add ts h0
      omega
theorem sh_dig {i : Int} {k : Nat} (h0 : 0 < k) (h : i.natAbs < 10 ^ k) (hk : i.natAbs < 2 ^ 12900) : Sh 0 (k + 1) (.int i) := by
  refine ⟨.int i, by unfold toPr; rfl, by unfold bigP; exact decide_eq_true hk, Nat.le_refl _, ?_⟩
  rw [PyData.shown, PySem.ofString_length]
  exact int_text_length_le10 h0 h
theorem shL {n c : Nat} : ∀ ds : List D, (∀ d ∈ ds, Sh n c d) → ∃ ps, toPrL ds = some ps ∧ bigPs ps = true ∧ PyData.depthAll ps ≤ n ∧ (PyData.shownAll ps).length = ds.length ∧ ∀ t ∈ PyData.shownAll ps, t.length ≤ c
  | [], _ => ⟨[], by unfold toPrL; rfl, rfl, Nat.zero_le _, rfl, fun t h => by simp [PyData.shownAll] at h⟩
  | d :: ds, h => by
    obtain ⟨p, a, b, f, g⟩ := h d (List.mem_cons_self ..)
    obtain ⟨ps, a2, b2, f2, g2, l2⟩ := shL ds fun x hx => h x (List.mem_cons_of_mem _ hx)
    refine ⟨p :: ps, by unfold toPrL; rw [a, a2], by unfold bigPs; rw [b, b2]; rfl, by simp [PyData.depthAll]; omega, by simp [PyData.shownAll, g2], fun t ht => ?_⟩
    simp only [PyData.shownAll, List.mem_cons] at ht
    rcases ht with rfl | ht
    · exact g
    · exact l2 t ht
theorem sh_lst {n c : Nat} {ds : List D} (h : ∀ d ∈ ds, Sh n c d) : Sh (n + 1) (ds.length * (c + 2) + 2) (.lst ds) := by
  obtain ⟨ps, a, b, f, g, l⟩ := shL ds h
  refine ⟨.list ps, by unfold toPr; rw [a]; rfl, by unfold bigP; exact b, by simp [PyData.depth]; omega, ?_⟩
  have := (listText_len_le (PyData.shownAll ps) c l).1
  rw [g] at this
  simpa [PyData.shown] using this
theorem sh_tup {n c : Nat} {ds : List D} (h : ∀ d ∈ ds, Sh n c d) : Sh (n + 1) (ds.length * (c + 2) + 3) (.tup ds) := by
  obtain ⟨ps, a, b, f, g, l⟩ := shL ds h
  refine ⟨.tuple ps, by unfold toPr; rw [a]; rfl, by unfold bigP; exact b, by simp [PyData.depth]; omega, ?_⟩
  have := (listText_len_le (PyData.shownAll ps) c l).2
  rw [g] at this
  simpa [PyData.shown] using this
section
variable {hc : CH} {P : D → Prop} {i j : Nat} {a : Addr} {xs ys : List D} {d : D} {ca : CEx} {C : CEnds} {sc : List Sl} {l u : Int}
theorem o_rev : revD (.lst xs) hc P = P (.lst xs.reverse) := rfl
theorem o_tupF : tupleFD [.lst xs] hc P = P (.tup xs) := rfl
theorem o_tupF2 : tupleFD [.tup xs] hc P = P (.tup xs) := rfl
theorem o_lstF : listFD [.lst xs] hc P = P (.lst xs) := rfl
theorem o_lstF2 : listFD [.tup xs] hc P = P (.lst xs) := rfl
theorem o_repr : reprD [d] hc P = (ShOk d ∧ P (.str (shw d))) := rfl
theorem e_ParO : cParO i j ca C sc hc = ca C.xp sc hc fun d hc1 => C.nx ((sc.set i (.own [])).set j (.val d)) hc1 := rfl
theorem o_isN1 : isND .non .non hc P = P (.bl true) := rfl
theorem o_isN2 : isND (.tup xs) .non hc P = P (.bl false) := rfl
theorem o_isN3 : isND (.int l) .non hc P = P (.bl false) := rfl
theorem o_isN4 : isND (.lst xs) .non hc P = P (.bl false) := rfl
theorem o_notN1 : notND .non .non hc P = P (.bl false) := rfl
theorem o_notN2 : notND (.tup xs) .non hc P = P (.bl true) := rfl
theorem o_notN3 : notND (.int l) .non hc P = P (.bl true) := rfl
theorem o_notN4 : notND (.lst xs) .non hc P = P (.bl true) := rfl
end
theorem lc_step {ci : CIx} {i : Nat} {ce : CEx} {own : List Nat} {E : XP} {sc : List Sl} {hc : CH} {P : D → CH → Prop}
    (h : ∀ R : List D → CH → Prop, (∀ (ds : List D) (hc1 : CH) (f : D → D), ds.length ≤ sizeLine → (∀ d ∈ ds, ∀ Nx : D → CH → Prop, Nx (f d) hc1 → ce (fun _ _ _ => False) ((wipeC sc own).set i (.val d)) hc1 Nx) → P (.lst (ds.map f)) hc1 → R ds hc1) → ci E sc hc R) :
    cLc ci (gN i) cYes ce own E sc hc P := h (fun ds hc1 => ds.length ≤ sizeLine ∧ lcW (gN i) cYes ce own sc ds [] hc1 fun out hc2 => P (.lst out) hc2) fun _ _ f z st q => ⟨z, lc_map f st q⟩
theorem lc_inv {ci : CIx} {g : CGx} {t : CTx} {ce : CEx} {own : List Nat} {E : XP} {sc : List Sl} {hc : CH} {P : D → CH → Prop}
    (h : ∀ R : List D → CH → Prop, (∀ (ds : List D) (hc1 : CH) (I : Nat → List D → CH → Prop), ds.length ≤ sizeLine → I 0 [] hc1 →
      (∀ (j : Nat) (d : D) acc hc (Nx : List D → CH → Prop), ds[j]? = some d → I j acc hc → (∀ acc' hc', I (j + 1) acc' hc' → Nx acc' hc') → g (fun _ _ _ => False) d (wipeC sc own) hc fun sc1 hc1 => t (fun _ _ _ => False) sc1 hc1 fun b hc2 =>
        if b = true then ce (fun _ _ _ => False) sc1 hc2 fun y hc3 => Nx (acc ++ [y]) hc3 else Nx acc hc2) → (∀ acc hc, I ds.length acc hc → P (.lst acc) hc) → R ds hc1) → ci E sc hc R) :
    cLc ci g t ce own E sc hc P := h (fun ds hc1 => ds.length ≤ sizeLine ∧ lcW g t ce own sc ds [] hc1 fun out hc2 => P (.lst out) hc2) fun ds hc1 I z b st q =>
      ⟨z, lcW_inv I ds 0 b (fun j d acc hc Nx e k nx => st j d acc hc Nx e (by rw [Nat.zero_add] at k; exact k) fun a h z => nx a h (by rw [Nat.zero_add]; exact z)) fun acc hc k => q acc hc (by rw [Nat.zero_add] at k; exact k)⟩
theorem rng_mem {lo hi : Int} {d : D} (h : d ∈ rngD lo hi) : ∃ x : Int, d = .int x ∧ lo ≤ x ∧ x < hi := by
  unfold rngD at h
  obtain ⟨k, hk, rfl⟩ := List.mem_map.mp h
  rw [List.mem_range] at hk
  exact ⟨_, rfl, by omega, by omega⟩
theorem e_Star {ca : CEx} {c : CAx} {E : XP} {sc : List Sl} {hc : CH} {PA : List D → CH → Prop} : cStar ca c E sc hc PA = ca E sc hc fun d hc1 => match d with
  | .tup xs => c E sc hc1 fun ds hc2 => PA (xs ++ ds) hc2
  | .lst xs => c E sc hc1 fun ds hc2 => PA (xs ++ ds) hc2
  | _ => False := rfl
theorem wipe_0 {sc : List Sl} : wipeC sc [] = sc := rfl
theorem wipe_s {sc : List Sl} {v : Nat} {vs : List Nat} : wipeC sc (v :: vs) = (wipeC sc vs).set v .un := rfl
section
variable {g : CGx} {gs : CGsx} {E : XP} {d : D} {xs : List D} {n : Nat} {sc : List Sl} {hc : CH} {P : List Sl → CH → Prop}
theorem e_gNil : gNil' E [] sc hc P = P sc hc := rfl
theorem e_gCons : gCons' g gs E (d :: xs) sc hc P = g E d sc hc fun sc1 hc1 => gs E xs sc1 hc1 P := rfl
theorem e_gUnT : gUn n gs E (.tup xs) sc hc P = (xs.length = n ∧ gs E xs sc hc P) := rfl
theorem e_gUnL : gUn n gs E (.lst xs) sc hc P = (xs.length = n ∧ gs E xs sc hc P) := rfl
theorem e_gTup : gTup' n gs E (.tup xs) sc hc P = (xs.length = n ∧ gs E xs sc hc P) := rfl
end
end Mn
namespace Mn
open PySem PySem.Spec PyProof.Rows L2
section
variable {X : Cx} {W : WX} {e : Expr} {ce : CEx} {pos apos : Pos}
def bitsD : O1
  | .int i, _, P => P (.int (Builtin.Int.intBits i : Nat))
  | _, _, _ => False
theorem ce_bits (h : CB X W e ce) (hb : attributeBase e "bit_length" X.env (eval e X.env) = eval e X.env := by rfl) (hl : (apos.endLine == pos.line) = true := by rfl) : CE X W (.Call (.Attribute e "bit_length" apos) [] [] pos) (cUn bitsD ce) :=
  ⟨pe_wk (pe_bits h.p hb hl) fun σ H Q ⟨en, sc, hc, m, E, P, r, k, xo, fin⟩ =>
    ⟨en, sc, hc, m, E, _, r, k, xo, fun d hc1 p v H1 m1 x1 q => by
      have q := q.w (r.call x1)
      cases d <;> try exact p.elim
      unfold RepW Rep at q
      exact ⟨_, q, fin _ hc1 p _ _ _ x1 rep_int⟩⟩⟩
def divmodD : On := fun ds _ P => match ds with
  | [.int i, .int j] => DivOk i j ∧ P (.tup [.int (i / j), .int (i % j)])
  | _ => False
theorem bf_divmod : CallR X (.builtin "divmod") (LVn X.K divmodD) := by
  intro pins s σ H xs us Q I r h
  obtain ⟨hc', m, ds, P, w, h1, f, fin⟩ := h
  unfold divmodD at f
  split at f
  · obtain ⟨x, y, rfl, k1, k2⟩ := wl2 h1
    unfold RepW Rep at k1 k2
    subst k1; subst k2
    exact call_divmodW pins s σ H _ us Q I r ⟨_, _, rfl, f.1, fun l n => fin _ f.2 _ _ (same_upd n) (rep_tup w.mu n (RepL.cons rep_int (RepL.cons rep_int RepL.nil)))⟩
  · exact f.elim
def inG (neg : Bool) (x : D) (xs : List D) (P : D → Prop) : Prop := ∃ p ps, toPy x = some p ∧ toPyL xs = some ps ∧ p.canLay0 = true ∧ p.depth ≤ 64 ∧ PyData.canLayAll0 ps = true ∧ P (.bl (if neg then !ps.any fun z => PyData.eqv z p else ps.any fun z => PyData.eqv z p))
def inD : O2 := fun x y _ P => match y with
  | .lst ys => inG false x ys P
  | .tup ys => inG false x ys P
  | _ => False
def ninD : O2 := fun x y _ P => match y with
  | .lst ys => inG true x ys P
  | .tup ys => inG true x ys P
  | _ => False
theorem op_inDD {k : Nat} (g : RG k X.A) : OpR X (compareOp .In) (LV2 X.K inD) := by
  intro pins s σ H x y v u Q I rx ry h
  obtain ⟨hc, m, dx, dy, P, w, h1, h2, f, fin⟩ := h
  have un := g.r.un
  cases dy <;> try exact f.elim
  all_goals
    obtain ⟨p, ps, e1, e2, c1, l1, c2, q⟩ := f
    obtain ⟨as, r1⟩ := Dp.reads I p x v (dpw_of _ _ _ e1 h1) rx
  · obtain ⟨bs, r2⟩ := Dp.reads I (.tuple ps) y u (dpw_of _ _ _ (by unfold toPy; rw [e2]; rfl) h2) ry
    exact SeqAt.in_tuple_reads r2 r1 c2 c1 (Nat.lt_of_le_of_lt (Nat.add_le_add_left (Nat.min_le_right _ _) _) (by omega)) ⟨.bl _, H, I, rfl, eq_flat fin q⟩
  · obtain ⟨bs, r2⟩ := Dp.reads I (.list ps) y u (dpw_of _ _ _ (by unfold toPy; rw [e2]; rfl) h2) ry
    exact SeqAt.in_list_reads r2 r1 c2 c1 (Nat.lt_of_le_of_lt (Nat.add_le_add_left (Nat.min_le_right _ _) _) (by omega)) ⟨.bl _, H, I, rfl, eq_flat fin q⟩
end
theorem any_ok {n m : Nat} {x : D} {p : PyData} (ex : toPy x = some p) (hx : okD n x = true) : ∀ {xs : List D} {ps : List PyData}, xs.all (okD m) = true → toPyL xs = some ps → ((ps.any fun z => PyData.eqv z p) = true ↔ x ∈ xs)
  | [], ps, _, e => by unfold toPyL at e; cases e; simp
  | y :: ys, ps, h, e => by
    unfold toPyL at e
    rw [List.all_cons, Bool.and_eq_true] at h
    split at e
    · next q qs f1 f2 =>
      cases e
      obtain ⟨q', e1, _, _, k⟩ := okPy m y h.1
      rw [f1] at e1; cases e1
      rw [List.any_cons, Bool.or_eq_true, any_ok ex hx h.2 f2, k x n p hx ex, List.mem_cons]
      exact or_congr ⟨Eq.symm, Eq.symm⟩ Iff.rfl
    · cases e
theorem inG_ok {neg : Bool} {n m : Nat} {x : D} {xs : List D} {P : D → Prop} (hx : okD n x = true) (hy : xs.all (okD m) = true) (h1 : x ∈ xs → P (.bl (!neg))) (h2 : x ∉ xs → P (.bl neg)) (hn : n ≤ 64 := by decide) : inG neg x xs P := by
  obtain ⟨p, e1, c1, l1, k1⟩ := okPy n x hx
  obtain ⟨ps, e2, c2, _, _⟩ := okPyL (okPy m) xs hy
  refine ⟨p, ps, e1, e2, c1, by omega, c2, ?_⟩
  have k := any_ok e1 hx hy e2
  cases z : ps.any fun z => PyData.eqv z p with
  | true => have := h1 (k.mp z); cases neg <;> exact this
  | false => have := h2 fun w => by rw [k.mpr w] at z; cases z
             cases neg <;> exact this
section
variable {hc : CH} {P : D → Prop} {i j : Int} {x : D} {xs : List D}
theorem o_bits : bitsD (.int i) hc P = P (.int (Builtin.Int.intBits i : Nat)) := rfl
theorem o_divmod : divmodD [.int i, .int j] hc P = (DivOk i j ∧ P (.tup [.int (i / j), .int (i % j)])) := rfl
theorem o_inL : inD x (.lst xs) hc P = inG false x xs P := rfl
theorem o_inT : inD x (.tup xs) hc P = inG false x xs P := rfl
theorem o_ninL : ninD x (.lst xs) hc P = inG true x xs P := rfl
theorem o_ninT : ninD x (.tup xs) hc P = inG true x xs P := rfl
end
end Mn
namespace Mn
open PySem PySem.Spec PyProof.Rows L2
def cSetF (i : Nat) (ce : CEx) : CSx := fun C sc hc => ce C.xp sc hc fun d hc1 => match d with | .lst ds => C.nx (sc.set i (.own ds)) hc1 | _ => False
section
variable {X : Cx} {W : WX} {e a b : Expr} {ce ca cb : CEx} {pos : Pos}
def catD : O2
  | .lst xs, .lst ys, _, P => xs.length + ys.length ≤ sizeLine ∧ P (.lst (xs ++ ys))
  | .ref a, .lst ys, hc, P => oth (hL hc a) fun xs => xs.length + ys.length ≤ sizeLine ∧ P (.lst (xs ++ ys))
  | .lst xs, .ref a, hc, P => oth (hL hc a) fun ys => xs.length + ys.length ≤ sizeLine ∧ P (.lst (xs ++ ys))
  | _, _, _, _ => False
end
section
variable {X : Cx} {W : WX} {tg iter elt : Expr} {ifs : List Expr} {pos : Pos} {vs : List Nat} {ce : CEx} {ct : CTx}
end
theorem o_intB {b : Bool} {hc : CH} {P : D → Prop} : intFD [.bl b] hc P = P (.int (if b then 1 else 0)) := rfl
theorem o_catL {xs ys : List D} {hc : CH} {P : D → Prop} : catD (.lst xs) (.lst ys) hc P = (xs.length + ys.length ≤ sizeLine ∧ P (.lst (xs ++ ys))) := rfl
theorem e_SetF {i : Nat} {ce : CEx} {C : CEnds} {sc : List Sl} {hc : CH} : cSetF i ce C sc hc = ce C.xp sc hc fun d hc1 => match d with | .lst ds => C.nx (sc.set i (.own ds)) hc1 | _ => False := rfl
theorem at_3 {xs : List D} {P : D → Prop} {d e f g : D} : oth (atI (d :: e :: f :: g :: xs) 3) P = P g := by
  have h : atI (d :: e :: f :: g :: xs) 3 = some g := atI_nat' (j := 3) rfl rfl
  rw [h]
  exact propext ⟨fun z => let ⟨x, e, q⟩ := oth_of z; by cases e; exact q, fun z => oth_some rfl z⟩
theorem at_4 {xs : List D} {P : D → Prop} {d e f g i : D} : oth (atI (d :: e :: f :: g :: i :: xs) 4) P = P i := by
  have h : atI (d :: e :: f :: g :: i :: xs) 4 = some i := atI_nat' (j := 4) rfl rfl
  rw [h]
  exact propext ⟨fun z => let ⟨x, e, q⟩ := oth_of z; by cases e; exact q, fun z => oth_some rfl z⟩
def isBD : O2 := fun x y _ P => match x, y with | .bl a, .bl b => P (.bl (decide (a = b))) | _, _ => False
def notBD : O2 := fun x y _ P => match x, y with | .bl a, .bl b => P (.bl (!decide (a = b))) | _, _ => False
theorem o_isB {a b : Bool} {hc : CH} {P : D → Prop} : isBD (.bl a) (.bl b) hc P = P (.bl (decide (a = b))) := rfl
theorem o_notB {a b : Bool} {hc : CH} {P : D → Prop} : notBD (.bl a) (.bl b) hc P = P (.bl (!decide (a = b))) := rfl
section
variable {hc : CH} {P : D → Prop} {n : String} {i : Int} {b : Bool} {s : Str} {xs : List D} {ks : List Key}
theorem o_isi1 : isiD n .non hc P = P (.bl (isTy n .non)) := propext ⟨fun h => h.2, fun h => ⟨trivial, h⟩⟩
theorem o_isi2 : isiD n (.bl b) hc P = P (.bl (isTy n (.bl b))) := propext ⟨fun h => h.2, fun h => ⟨trivial, h⟩⟩
theorem o_isi3 : isiD n (.int i) hc P = P (.bl (isTy n (.int i))) := propext ⟨fun h => h.2, fun h => ⟨trivial, h⟩⟩
theorem o_isi4 : isiD n (.str s) hc P = P (.bl (isTy n (.str s))) := propext ⟨fun h => h.2, fun h => ⟨trivial, h⟩⟩
theorem o_isi5 : isiD n (.tup xs) hc P = P (.bl (isTy n (.tup xs))) := propext ⟨fun h => h.2, fun h => ⟨trivial, h⟩⟩
theorem o_isi6 : isiD n (.lst xs) hc P = P (.bl (isTy n (.lst xs))) := propext ⟨fun h => h.2, fun h => ⟨trivial, h⟩⟩
theorem o_isi7 : isiD n (.dct ks xs) hc P = P (.bl (isTy n (.dct ks xs))) := propext ⟨fun h => h.2, fun h => ⟨trivial, h⟩⟩
theorem o_isi8 : isiD n (.frz xs) hc P = P (.bl (isTy n (.frz xs))) := propext ⟨fun h => h.2, fun h => ⟨trivial, h⟩⟩
theorem ty_int_N : isTy "int" .non = false := by show tyB "NoneType" "int" = _; decide
theorem ty_int_B : isTy "int" (.bl b) = true := by show tyB "bool" "int" = _; decide
theorem ty_int_I : isTy "int" (.int i) = true := by show tyB "int" "int" = _; decide
theorem ty_int_S : isTy "int" (.str s) = false := by show tyB "str" "int" = _; decide
theorem ty_int_T : isTy "int" (.tup xs) = false := by show tyB "tuple" "int" = _; decide
theorem ty_int_L : isTy "int" (.lst xs) = false := by show tyB "list" "int" = _; decide
theorem ty_int_D : isTy "int" (.dct ks xs) = false := by show tyB "dict" "int" = _; decide
theorem ty_bool_N : isTy "bool" .non = false := by show tyB "NoneType" "bool" = _; decide
theorem ty_bool_B : isTy "bool" (.bl b) = true := by show tyB "bool" "bool" = _; decide
theorem ty_bool_I : isTy "bool" (.int i) = false := by show tyB "int" "bool" = _; decide
theorem ty_bool_S : isTy "bool" (.str s) = false := by show tyB "str" "bool" = _; decide
theorem ty_bool_T : isTy "bool" (.tup xs) = false := by show tyB "tuple" "bool" = _; decide
theorem ty_bool_L : isTy "bool" (.lst xs) = false := by show tyB "list" "bool" = _; decide
theorem ty_bool_D : isTy "bool" (.dct ks xs) = false := by show tyB "dict" "bool" = _; decide
theorem ty_str_N : isTy "str" .non = false := by show tyB "NoneType" "str" = _; decide
theorem ty_str_B : isTy "str" (.bl b) = false := by show tyB "bool" "str" = _; decide
theorem ty_str_I : isTy "str" (.int i) = false := by show tyB "int" "str" = _; decide
theorem ty_str_S : isTy "str" (.str s) = true := by show tyB "str" "str" = _; decide
theorem ty_str_T : isTy "str" (.tup xs) = false := by show tyB "tuple" "str" = _; decide
theorem ty_str_L : isTy "str" (.lst xs) = false := by show tyB "list" "str" = _; decide
theorem ty_str_D : isTy "str" (.dct ks xs) = false := by show tyB "dict" "str" = _; decide
theorem ty_tuple_N : isTy "tuple" .non = false := by show tyB "NoneType" "tuple" = _; decide
theorem ty_tuple_B : isTy "tuple" (.bl b) = false := by show tyB "bool" "tuple" = _; decide
theorem ty_tuple_I : isTy "tuple" (.int i) = false := by show tyB "int" "tuple" = _; decide
theorem ty_tuple_S : isTy "tuple" (.str s) = false := by show tyB "str" "tuple" = _; decide
theorem ty_tuple_T : isTy "tuple" (.tup xs) = true := by show tyB "tuple" "tuple" = _; decide
theorem ty_tuple_L : isTy "tuple" (.lst xs) = false := by show tyB "list" "tuple" = _; decide
theorem ty_tuple_D : isTy "tuple" (.dct ks xs) = false := by show tyB "dict" "tuple" = _; decide
theorem ty_list_N : isTy "list" .non = false := by show tyB "NoneType" "list" = _; decide
theorem ty_list_B : isTy "list" (.bl b) = false := by show tyB "bool" "list" = _; decide
theorem ty_list_I : isTy "list" (.int i) = false := by show tyB "int" "list" = _; decide
theorem ty_list_S : isTy "list" (.str s) = false := by show tyB "str" "list" = _; decide
theorem ty_list_T : isTy "list" (.tup xs) = false := by show tyB "tuple" "list" = _; decide
theorem ty_list_L : isTy "list" (.lst xs) = true := by show tyB "list" "list" = _; decide
theorem ty_list_D : isTy "list" (.dct ks xs) = false := by show tyB "dict" "list" = _; decide
theorem ty_dict_N : isTy "dict" .non = false := by show tyB "NoneType" "dict" = _; decide
theorem ty_dict_B : isTy "dict" (.bl b) = false := by show tyB "bool" "dict" = _; decide
theorem ty_dict_I : isTy "dict" (.int i) = false := by show tyB "int" "dict" = _; decide
theorem ty_dict_S : isTy "dict" (.str s) = false := by show tyB "str" "dict" = _; decide
theorem ty_dict_T : isTy "dict" (.tup xs) = false := by show tyB "tuple" "dict" = _; decide
theorem ty_dict_L : isTy "dict" (.lst xs) = false := by show tyB "list" "dict" = _; decide
theorem ty_dict_D : isTy "dict" (.dct ks xs) = true := by show tyB "dict" "dict" = _; decide
end
end Mn
namespace Mn
open PySem PySem.Spec PyProof.Rows L2
section
variable {X : Cx} {W : WX} {pos : Pos}
end
def strD : On := fun ds _ P => match ds with
  | [.int i] => i.natAbs < 2 ^ 12900 ∧ P (.str (toString i))
  | [.str s] => P (.str s)
  | _ => False
theorem strOf_big {prog : Program} {w : World} {A : Around} {E : Value → Shared → Prop} {s : Shared} {a : Int} {t : Tok} {Q : Value → Shared → Prop} (S : Stat s.heap) (h : IntTxt a = true) (q : Q (.str (toString a) s.toks) { s with toks := s.toks + 1 }) : wpAny (model prog w) A (Builtin.Str.strOf (.int a t)) Q E s := by
  unfold Builtin.Str.strOf
  rw [show Builtin.Str.isExactStr (.int a t) = false from rfl]
  try (have hv : [Value.int a t].any Value.onHeap = false := rfl; simp only [cRoomFor, hv, Bool.false_eq_true, if_false, pure_bind])
  refine wpAny_bind (m := callSpecial? (.int a t) (Str.ofString "__str__")) (wpAny_callSpecial?_slot (name := Str.ofString "__str__") (typeIs_int s a t) F.slot_int_str ?_)
  refine wpAny_call_entry F.slot_int_str (typeIs_int s a t) entry_object_str ?_ (args_object_str _)
  unfold Builtin.«object.__str__»
  refine wpAny_bind (m := slotArgs "__str__" 0 _) (wpAny_pure ?_)
  try (have hv : [Value.int a t].any Value.onHeap = false := rfl; simp only [cRoomFor, hv, Bool.false_eq_true, if_false, pure_bind])
  refine wpAny_bind (m := callSpecialIfBound? (.int a t) (Str.ofString "__repr__")) (wpAny_callSpecialIfBound?_slot (name := Str.ofString "__repr__") (typeIs_int s a t) F.slot_int_repr (call_intrepr S h ?_))
  exact wpAny_pure ⟨_, rfl, wpAny_pure q⟩
theorem str_of_big {prog : Program} {w : World} {A : Around} {E : Value → Shared → Prop} {s : Shared} {a : Int} {t : Tok} {Q : Value → Shared → Prop} (S : Stat s.heap) (h : IntTxt a = true) (q : Q (.str (toString a) s.toks) { s with toks := s.toks + 1 }) : wpAny (model prog w) A (call (.type "str") [.int a t]) Q E s :=
  callType_new F.called_str (by decide) (F.typeCall_str_1 _) (F.newCall_str_1 _) (fun obj => F.args_object_init_2 obj _) F.entry_str_new
    (meets_str_new (S := fun _ R s => Stat s.heap ∧ R (.ok (.ret (.str (toString a) s.toks))) { s with toks := s.toks + 1 }) fun _ _ _ _ _ hq => strOf_big hq.1 h hq.2) ⟨S, typeIs_str _ _ _, q⟩
theorem bt_str {X : Cx} (st : statK X.K = true) : CallR X (.type "str") (LVn X.K strD) := by
  intro pins s σ H xs us Q I r h
  obtain ⟨hc', m, ds, P, w, h1, f, fin⟩ := h
  unfold strD at f
  split at f
  · obtain ⟨x, rfl, k1⟩ := wl1 h1
    unfold RepW Rep at k1
    subst k1
    obtain ⟨u, rfl, ru⟩ := vals1 r
    obtain ⟨t, rfl⟩ := ru
    exact str_of_big (stat_of I.kIn I.nolimit st) (decide_eq_true f.1) ⟨.str _, H, I.tok _, ⟨_, rfl⟩, fin _ f.2 _ _ (.refl H) rep_str⟩
  · obtain ⟨x, rfl, k1⟩ := wl1 h1
    unfold RepW Rep at k1
    subst k1
    obtain ⟨u, rfl, ru⟩ := vals1 r
    obtain ⟨t, rfl⟩ := ru
    exact PySem.P.str_of_str ⟨.str _, H, I, ⟨_, rfl⟩, fin _ f _ _ (.refl H) rep_str⟩
  · exact f.elim
theorem o_str {i : Int} {hc : CH} {P : D → Prop} : strD [.int i] hc P = (i.natAbs < 2 ^ 12900 ∧ P (.str (toString i))) := rfl
theorem o_strS {s : Str} {hc : CH} {P : D → Prop} : strD [.str s] hc P = P (.str s) := rfl
theorem sh_tupK {n c k : Nat} {xs : List D} (hl : xs.length ≤ k) (h : ∀ d ∈ xs, Sh n c d) : Sh (n + 1) (k * (c + 2) + 3) (.tup xs) := (sh_tup h).up (Nat.le_refl _) (by
  have := Nat.mul_le_mul_right (c + 2) hl
  omega)
theorem sh_lstK {n c k : Nat} {xs : List D} (hl : xs.length ≤ k) (h : ∀ d ∈ xs, Sh n c d) : Sh (n + 1) (k * (c + 2) + 2) (.lst xs) := (sh_lst h).up (Nat.le_refl _) (by
  have := Nat.mul_le_mul_right (c + 2) hl
  omega)
section
variable {hc : CH} {P : D → Prop} {xs : List D} {s : Str} {b : Bool} {ks : List Key}
theorem o_isN5 : isND (.str s) .non hc P = P (.bl false) := rfl
theorem o_isN6 : isND (.bl b) .non hc P = P (.bl false) := rfl
theorem o_isN7 : isND (.dct ks xs) .non hc P = P (.bl false) := rfl
theorem o_notN5 : notND (.str s) .non hc P = P (.bl true) := rfl
theorem o_notN6 : notND (.bl b) .non hc P = P (.bl true) := rfl
theorem o_notN7 : notND (.dct ks xs) .non hc P = P (.bl true) := rfl
theorem o_lenS : lenD [.str s] hc P = (s.length ≤ sizeLine ∧ P (.int s.length)) := rfl
end
section
variable {prog : Program} {w : World} {A : Around} {E : Value → Shared → Prop} {s : Shared}
end
def revB : O1
  | .lst xs, _, P => P (.lst xs.reverse)
  | .tup xs, _, P => P (.tup xs.reverse)
  | _, _, _ => False
theorem o_revBL {xs : List D} {hc : CH} {P : D → Prop} : revB (.lst xs) hc P = P (.lst xs.reverse) := rfl
theorem o_revBT {xs : List D} {hc : CH} {P : D → Prop} : revB (.tup xs) hc P = P (.tup xs.reverse) := rfl
theorem sh_small {i : Int} {n c : Nat} (h : i.natAbs < 1000000000) (hc : 10 ≤ c := by decide) : Sh n c (.int i) := (sh_dig (k := 9) (by decide) (by
  have : (10 : Nat) ^ 9 = 1000000000 := by decide
  omega) (Nat.lt_of_lt_of_le h (by decide +kernel))).up (Nat.zero_le _) hc
theorem asg_step {ce : CEx} {i : Nat} {C : CEnds} {sc : List Sl} {hc : CH} (h : ∀ L : D → CH → Prop, (∀ d hc', C.nx (sc.set i (.val d)) hc' → L d hc') → ce C.xp sc hc L) : cAsg ce (gN i) C sc hc :=
  h (fun d hc' => C.nx (sc.set i (.val d)) hc') fun _ _ z => z
def gSubO (i : Nat) (ci : CEx) : CGx := fun E d sc hc P => match lookO sc i with
  | some ds => ci E sc hc fun y hc1 => match y with
    | .int k => oth (ixN ds.length k) fun j => P (sc.set i (.own (ds.set j d))) hc1
    | _ => False
  | none => False
theorem e_gSubO {i : Nat} {ci : CEx} {E : XP} {d : D} {sc : List Sl} {hc : CH} {P : List Sl → CH → Prop} : gSubO i ci E d sc hc P = match lookO sc i with
  | some ds => ci E sc hc fun y hc1 => match y with
    | .int k => oth (ixN ds.length k) fun j => P (sc.set i (.own (ds.set j d))) hc1
    | _ => False
  | none => False := rfl
def dref (hc : CH) : D → Option D
  | .ref a => (hL hc a).map D.lst
  | d => some d
def reprRD : On := fun ds hc P => match ds with
  | [d] => oth (dref hc d) fun e => ShOk e ∧ P (.str (shw e))
  | _ => False
theorem o_reprR {d : D} {hc : CH} {P : D → Prop} : reprRD [d] hc P = oth (dref hc d) fun e => ShOk e ∧ P (.str (shw e)) := rfl
theorem o_tupR {a : Addr} {hc : CH} {P : D → Prop} : tupleFD [.ref a] hc P = oth (hL hc a) fun xs => P (.tup xs) := rfl
theorem e_LstM {c : CAx} {E : XP} {sc : List Sl} {hc : CH} {P : D → CH → Prop} : cLstM c E sc hc P = c E sc hc fun ds hc1 => ds.length ≤ sizeLine ∧ ∀ p, hc1 p = none → P (.ref p) (updc hc1 p ds) := rfl
theorem o_mulT {xs : List D} {i : Int} {hc : CH} {P : D → Prop} : mulD (.tup xs) (.int i) hc P = ((xs ≠ [] ∧ 2 ≤ i ∧ i ≤ 1000 ∧ xs.length ≤ 1000) ∧ P (.tup (List.replicate i.toNat xs).flatten)) := rfl
theorem o_slR {a : Addr} {lo hi : Option Int} {hc : CH} {P : D → Prop} : slD (.ref a) lo hi hc P = oth (hL hc a) fun xs => P (.lst (cutX xs lo hi)) := rfl
end Mn
namespace Mn
open PySem PySem.Spec PyProof.Rows L2
def itemAt (K : PySem.W.Frag) (a : Addr) (i : Nat) : Addr := match K.lookup a with
  | some ⟨_, _, .seq its _, _⟩ => (match its.toList[i]? with
    | some (.ref p) => p
    | _ => 0)
  | _ => 0
def constV (K : PySem.W.Frag) (a : Addr) (i : Nat) : D → V
  | .int i => .int i
  | .str s => .str s
  | .bl b => .bl b
  | .tup _ => .ref (itemAt K a i)
  | _ => .non
def constVs (K : PySem.W.Frag) (a : Addr) : Nat → List D → List V
  | _, [] => []
  | i, d :: ds => constV K a i d :: constVs K a (i + 1) ds
def tupAt (K : PySem.W.Frag) (a : Addr) (vs : List V) : Bool := match K.lookup a with
  | some ⟨.type c, _, .seq its _, _⟩ => decide (c = "tuple") && (decide (its.size ≤ sizeLine) && He.relAll vs its.toList)
  | _ => false
mutual
/-- what stands below is as told -/
def deepB (K : PySem.W.Frag) (a : Addr) (i : Nat) : D → Bool
  | .int _ => true
  | .str _ => true
  | .bl _ => true
  | .non => true
  | .tup xs => tupAt K (itemAt K a i) (constVs K (itemAt K a i) 0 xs) && deepBs K (itemAt K a i) 0 xs
  | _ => false
def deepBs (K : PySem.W.Frag) (a : Addr) (i : Nat) : List D → Bool
  | [] => true
  | d :: ds => deepB K a i d && deepBs K a (i + 1) ds
end
def tupN (K : PySem.W.Frag) (x : Str) (ds : List D) : Bool := tupAt K (He.ga K x) (constVs K (He.ga K x) 0 ds) && deepBs K (He.ga K x) 0 ds
theorem tupAt_ok {K : PySem.W.Frag} {a : Addr} {vs : List V} (h : tupAt K a vs = true) (H : Hp) : SqT K H a vs := by
  unfold tupAt at h
  split at h
  · next c d its n osl q =>
    rw [Bool.and_eq_true, Bool.and_eq_true, decide_eq_true_iff, decide_eq_true_iff] at h
    exact .inr ⟨_, its, n, q, congrArg Value.type h.1, rfl, h.2.1, He.relAll_ok h.2.2⟩
  · cases h
mutual
theorem deepB_ok {K : PySem.W.Frag} {H : Hp} {m : Ms} {a : Addr} {i : Nat} : ∀ d : D, deepB K a i d = true → Rep K H m d (constV K a i d)
  | .int _, _ => by unfold Rep; rfl
  | .str _, _ => by unfold Rep; rfl
  | .bl _, _ => by unfold Rep; rfl
  | .non, _ => by unfold Rep; rfl
  | .tup xs, h => by
    unfold deepB at h
    rw [Bool.and_eq_true] at h
    unfold Rep
    exact ⟨_, _, rfl, tupAt_ok h.1 H, deepBs_ok xs h.2⟩
  | .lst _, h => by unfold deepB at h; cases h
  | .ref _, h => by unfold deepB at h; cases h
  | .dct _ _, h => by unfold deepB at h; cases h
  | .frz _, h => by unfold deepB at h; cases h
  | .clo _ _ _, h => by unfold deepB at h; cases h
  | .exn _ _ _ _, h => by unfold deepB at h; cases h
  | .fn _, h => by unfold deepB at h; cases h
  | .ins _ _ _, h => by unfold deepB at h; cases h
  | .mrk _ _, h => by unfold deepB at h; cases h
  | .mrd _ _, h => by unfold deepB at h; cases h
  | .dkl _ _, h => by unfold deepB at h; cases h
theorem deepBs_ok {K : PySem.W.Frag} {H : Hp} {m : Ms} {a : Addr} {i : Nat} : ∀ ds : List D, deepBs K a i ds = true → RepL K H m ds (constVs K a i ds)
  | [], _ => by unfold RepL; rfl
  | d :: ds, h => by
    unfold deepBs at h
    rw [Bool.and_eq_true] at h
    unfold RepL
    exact ⟨_, _, rfl, deepB_ok d h.1, deepBs_ok ds h.2⟩
end
theorem GlobC.tup {K : PySem.W.Frag} {mg : Str → Option Value} {x : Str} {ds : List D} (h : mg x = some (.ref (He.ga K x))) (t : tupN K x ds = true) (_ : ds.length = ds.length) : GlobC K mg x (.tup ds) := by
  unfold tupN at t
  rw [Bool.and_eq_true] at t
  refine ⟨.ref (He.ga K x), .ref (He.ga K x), h, rfl, fun H m => ?_⟩
  unfold Rep
  exact ⟨_, _, rfl, tupAt_ok t.1 H, deepBs_ok ds t.2⟩
abbrev TupC := List (Str × List D)
def obsU (fa : List He.Fa) (fn : List He.DefD) (tc : TupC) (K : PySem.W.Frag) : He.AlD × Bool := (He.obsD fa fn K, statK K && tc.all fun t => tupN K t.1 t.2)
def SaysU (fa : List He.Fa) (fn : List He.DefD) (tc : TupC) (K : PySem.W.Frag) : Prop := obsU fa fn tc K = (He.valD fn, true)
theorem SaysU.d {fa : List He.Fa} {fn : List He.DefD} {tc : TupC} {K : PySem.W.Frag} (c : SaysU fa fn tc K) : He.SaysD fa fn K := congrArg (fun z : He.AlD × Bool => z.1) c
theorem SaysU.two {fa : List He.Fa} {fn : List He.DefD} {tc : TupC} {K : PySem.W.Frag} (c : SaysU fa fn tc K) : statK K = true ∧ (tc.all fun t => tupN K t.1 t.2) = true := by
  have h : (statK K && tc.all fun t => tupN K t.1 t.2) = true := congrArg (fun z : He.AlD × Bool => z.2) c
  rwa [Bool.and_eq_true] at h
theorem SaysU.s {fa : List He.Fa} {fn : List He.DefD} {tc : TupC} {K : PySem.W.Frag} (c : SaysU fa fn tc K) : statK K = true := c.two.1
theorem SaysU.t {fa : List He.Fa} {fn : List He.DefD} {tc : TupC} {K : PySem.W.Frag} (c : SaysU fa fn tc K) (i : Nat) {x : Str} {ds : List D} (h : tc[i]? = some (x, ds) := by rfl) : tupN K x ds = true :=
  List.all_eq_true.mp c.two.2 (x, ds) (List.mem_of_getElem? h)
end Mn
namespace Mn
open PySem PySem.Spec PyProof.Rows L2
abbrev Arm := Option Str × CSx
def cArms : List Arm → Str → CSx
  | [], _ => cNext
  | (some z, c) :: r, x => fun C sc hc => if x = z then c C sc hc else cArms r x C sc hc
  | (none, c) :: _, _ => c
def cMatch (ce : CEx) (as : List Arm) : CSx := fun C sc hc => ce C.xp sc hc fun d hc1 => match d with
  | .str x => cArms as x C sc hc1
  | _ => False
inductive Arms (X : Cx) (W : WX) : List MatchCase → List Arm → Prop where
  | nil : Arms X W [] []
  | val {x : Str} {j : Nat} {p1 p2 : Pos} {body : List Stmt} {c : CSx} {r : List MatchCase} {rs : List Arm} (h : CSs X W body c) (hr : Arms X W r rs) : Arms X W (⟨.MatchValue (.Constant (.str x) j p1) p2, none, body⟩ :: r) ((some x, c) :: rs)
  | or2 {x y : Str} {j1 j2 : Nat} {p1 p2 p3 p4 p5 : Pos} {body : List Stmt} {c : CSx} {r : List MatchCase} {rs : List Arm} (h : CSs X W body c) (hr : Arms X W r rs) :
      Arms X W (⟨.MatchOr [.MatchValue (.Constant (.str x) j1 p1) p2, .MatchValue (.Constant (.str y) j2 p3) p4] p5, none, body⟩ :: r) ((some x, c) :: (some y, c) :: rs)
  | any {p : Pos} {body : List Stmt} {c : CSx} {r : List MatchCase} {rs : List Arm} (h : CSs X W body c) (hr : Arms X W r rs) : Arms X W (⟨.MatchAs none none p, none, body⟩ :: r) ((none, c) :: rs)
theorem pat_val {X : Cx} {pins : List (Addr × Obj)} {s : Shared} {σ : L2.St} {H : Hp} {x z : Str} {u : Value} {j : Nat} {p1 p2 : Pos} {Q : Option (List (Str × Value)) → Shared → Prop} (I : Inv X pins σ H s) (rx : RelV (.str x) u) (h : ∀ s', Inv X pins σ H s' → Q (if x = z then some [] else none) s') :
    wpAny (model X.prog X.w) X.A (matchPattern (.MatchValue (.Constant (.str z) j p1) p2) X.env u) Q X.xe s := by
  refine wpAny_matchPattern_Value (thn ((pe_str (X := X) (x := z) (j := j) (pos := p1)).run pins s σ H (fun v H' => v = .str z ∧ H' = H) I ⟨rfl, rfl⟩) fun y s1 ⟨v, H1, I1, rv, e1, e2⟩ => ?_)
  subst e1
  subst e2
  refine thn (op_eq pins s1 σ H1 (.str x) (.str z) u y (fun v H' => v = .bl (decide (V.str x = V.str z)) ∧ H' = H1) I1 rx rv ⟨rfl, rfl, rfl⟩) fun w s2 ⟨v2, H2, I2, rv2, e1, e2⟩ => ?_
  subst e2
  subst e1
  cases (show w = Value.bool (decide (V.str x = V.str z)) from rv2)
  refine wpAny_truthy_bool ?_
  have q := h s2 I2
  by_cases e : x = z
  · rw [if_pos e] at q
    rw [if_pos (by rw [e]; exact decide_eq_true rfl)]
    exact q
  · rw [if_neg e] at q
    rw [if_neg (by rw [decide_eq_true_iff]; intro q; exact e (by cases q; rfl))]
    exact q
theorem arms_run {X : Cx} {W : WX} {cases : List MatchCase} {as : List Arm} (h : Arms X W cases as) : ∀ (pins : List (Addr × Obj)) (s : Shared) (σ : L2.St) (H : Hp) (D : Ends) (x : Str) (u : Value) (first : Bool), Inv X pins σ H s → RelV (.str x) u → LS X W (cArms as x) D σ H →
    wpAny (model X.prog X.w) X.A (matchCases cases X.env u first) (SP X pins D) X.xe s := by
  induction h with
  | nil =>
    intro pins s σ H D x u first I rx ⟨en, sc, hc, m, C, r, k, f⟩
    exact wpAny_matchCases_nil ⟨σ, H, I, f.nx sc hc k σ H m r .refl⟩
  | @val z j p1 p2 body c r rs h hr ih =>
    intro pins s σ H D x u first I rx ⟨en, sc, hc, m, C, rr, k, f⟩
    refine wpAny_matchCases_cons (wpAny_matchPattern_Value (thn ((pe_str (X := X) (x := z) (j := j) (pos := p1)).run pins s σ H (fun v H' => v = .str z ∧ H' = H) I ⟨rfl, rfl⟩) fun y s1 ⟨v, H1, I1, rv, e1, e2⟩ => ?_))
    subst e1
    subst e2
    refine thn (op_eq pins s1 σ H1 (.str x) (.str z) u y (fun v H' => v = .bl (decide (V.str x = V.str z)) ∧ H' = H1) I1 rx rv ⟨rfl, rfl, rfl⟩) fun w s2 ⟨v2, H2, I2, rv2, e1, e2⟩ => ?_
    subst e2
    subst e1
    cases (show w = Value.bool (decide (V.str x = V.str z)) from rv2)
    refine wpAny_truthy_bool ?_
    have k : (if x = z then c C sc hc else cArms rs x C sc hc) := k
    by_cases e : x = z
    · rw [if_pos e] at k
      rw [if_pos (by rw [e]; exact decide_eq_true rfl)]
      exact wpAny_assignInOrder_none (h.p.run pins s2 σ H2 D I2 ⟨en, sc, hc, m, C, rr, k, f⟩)
    · rw [if_neg e] at k
      rw [if_neg (by rw [decide_eq_true_iff]; intro q; exact e (by cases q; rfl))]
      exact ih pins s2 σ H2 D x u false I2 rx ⟨en, sc, hc, m, C, rr, k, f⟩
  | @or2 z1 z2 j1 j2 p1 p2 p3 p4 p5 body c r rs h hr ih =>
    intro pins s σ H D x u first I rx ⟨en, sc, hc, m, C, rr, k, f⟩
    have k : (if x = z1 then c C sc hc else if x = z2 then c C sc hc else cArms rs x C sc hc) := k
    refine wpAny_matchCases_cons (wpAny_matchPattern_Or (wpAny_matchFirst_cons (pat_val I rx fun s1 I1 => ?_)))
    by_cases e : x = z1
    · rw [if_pos e] at k
      rw [if_pos e]
      exact wpAny_assignInOrder_none (h.p.run pins s1 σ H D I1 ⟨en, sc, hc, m, C, rr, k, f⟩)
    · rw [if_neg e] at k
      rw [if_neg e]
      refine wpAny_matchFirst_cons (pat_val I1 rx fun s2 I2 => ?_)
      by_cases e : x = z2
      · rw [if_pos e] at k
        rw [if_pos e]
        exact wpAny_assignInOrder_none (h.p.run pins s2 σ H D I2 ⟨en, sc, hc, m, C, rr, k, f⟩)
      · rw [if_neg e] at k
        rw [if_neg e]
        exact wpAny_matchFirst_nil (ih pins s2 σ H D x u false I2 rx ⟨en, sc, hc, m, C, rr, k, f⟩)
  | @any p body c r rs h hr ih =>
    intro pins s σ H D x u first I rx q
    exact wpAny_matchCases_cons (wpAny_matchPattern_Capture (wpAny_assignInOrder_none (h.p.run pins s σ H D I q)))
theorem cs_match {X : Cx} {W : WX} {e : Expr} {ce : CEx} {cases : List MatchCase} {as : List Arm} {pos : Pos} (h : CE X W e ce) (ha : Arms X W cases as) : CS X W (.Match e cases pos) (cMatch ce as) := by
  refine ⟨⟨fun pins s σ H D I ⟨en, sc, hc, m, C, r, k, f⟩ => ?_⟩⟩
  refine wpAny_Match (thn (h.p.run pins s σ H (fun v H1 => ∃ x, v = .str x ∧ LS X W (cArms as x) D σ H1) I ⟨en, sc, hc, m, C.xp, _, r, k, f.xp, fun d hc1 hp v H1 m1 x1 q1 => ?_⟩) fun u s1 ⟨v, H1, I1, rv, x, e1, q⟩ => ?_)
  · cases d <;> try exact hp.elim
    rename_i x
    unfold Rep at q1
    exact ⟨x, q1, en, sc, hc1, m1, C, r.call x1, hp, f.step x1.stp⟩
  · subst e1
    exact arms_run ha pins s1 σ H1 D x u true I1 rv q
section
variable {C : CEnds} {sc : List Sl} {hc : CH} {x z : Str} {c : CSx} {r : List Arm} {ce : CEx}
theorem e_Match {as : List Arm} : cMatch ce as C sc hc = ce C.xp sc hc fun d hc1 => match d with
  | .str x => cArms as x C sc hc1
  | _ => False := rfl
theorem e_arm1 : cArms ((some z, c) :: r) x C sc hc = if x = z then c C sc hc else cArms r x C sc hc := rfl
theorem e_arm2 : cArms ((none, c) :: r) x C sc hc = c C sc hc := rfl
theorem e_arm0 : cArms [] x C sc hc = C.nx sc hc := rfl
end
def zipD (xs ys : List D) : List D := List.zipWith (fun x y => D.tup [x, y]) xs ys
def zipP (ds : List D) (P : List D → CH → Prop) (hc : CH) : Prop := match ds with
  | [.lst xs, .lst ys] => P (zipD xs ys) hc
  | _ => False
def cZip (c1 c2 : CEx) : CIx := fun E sc hc P => cCons c1 (cCons c2 cNil) E sc hc fun ds hc1 => zipP ds P hc1
theorem e_Zip {c1 c2 : CEx} {E : XP} {sc : List Sl} {hc : CH} {P : List D → CH → Prop} : cZip c1 c2 E sc hc P = cCons c1 (cCons c2 cNil) E sc hc fun ds hc1 => zipP ds P hc1 := rfl
theorem o_zip {xs ys : List D} {hc : CH} {P : List D → CH → Prop} : zipP [.lst xs, .lst ys] P hc = P (zipD xs ys) hc := rfl
def cExt (i : Nat) (ce : CEx) : CSx := fun C sc hc => match lookO sc i with
  | some ds => ce C.xp sc hc fun d hc1 => match d with
    | .lst zs => ds.length + zs.length ≤ sizeLine ∧ C.nx (sc.set i (.own (ds ++ zs))) hc1
    | _ => False
  | none => False
section
variable {X : Cx} {W : WX} {e : Expr} {ce : CEx} {pos : Pos}
end
theorem e_Ext {i : Nat} {ce : CEx} {C : CEnds} {sc : List Sl} {hc : CH} : cExt i ce C sc hc = match lookO sc i with
  | some ds => ce C.xp sc hc fun d hc1 => match d with
    | .lst zs => ds.length + zs.length ≤ sizeLine ∧ C.nx (sc.set i (.own (ds ++ zs))) hc1
    | _ => False
  | none => False := rfl
def cParO2 (i j : Nat) (ca : CEx) (cb : CAx) : CSx := fun C sc hc => ca C.xp sc hc fun d hc1 => cb C.xp sc hc1 fun ds hc2 => ds.length ≤ sizeLine ∧ C.nx ((sc.set i (.val d)).set j (.own ds)) hc2
section
variable {X : Cx} {W : WX} {ca : CEx} {cb : CAx} {pos : Pos}
end
theorem e_ParO2 {i j : Nat} {ca : CEx} {cb : CAx} {C : CEnds} {sc : List Sl} {hc : CH} : cParO2 i j ca cb C sc hc = ca C.xp sc hc fun d hc1 => cb C.xp sc hc1 fun ds hc2 => ds.length ≤ sizeLine ∧ C.nx ((sc.set i (.val d)).set j (.own ds)) hc2 := rfl
def cLRg1 (ca : CEx) : CEx := fun E sc hc P => ca E sc hc fun d hc1 => match d with
  | .int n => (-(2 ^ 62) ≤ n ∧ n ≤ 16777216) ∧ P (.lst (rngD 0 n)) hc1
  | _ => False
def cLRg2 (ca cb : CEx) : CEx := fun E sc hc P => ca E sc hc fun d hc1 => cb E sc hc1 fun d2 hc2 => match d, d2 with
  | .int a, .int b => (-16777216 ≤ a ∧ a ≤ 16777216 ∧ -16777216 ≤ b ∧ b ≤ 16777216 ∧ b - a ≤ 16777216) ∧ P (.lst (rngD a b)) hc2
  | _, _ => False
section
variable {X : Cx} {W : WX} {e e2 : Expr} {ca cb : CEx} {p p2 pos pos2 : Pos}
end
theorem e_LRg1 {ca : CEx} {E : XP} {sc : List Sl} {hc : CH} {P : D → CH → Prop} : cLRg1 ca E sc hc P = ca E sc hc fun d hc1 => match d with
  | .int n => (-(2 ^ 62) ≤ n ∧ n ≤ 16777216) ∧ P (.lst (rngD 0 n)) hc1
  | _ => False := rfl
theorem e_LRg2 {ca cb : CEx} {E : XP} {sc : List Sl} {hc : CH} {P : D → CH → Prop} : cLRg2 ca cb E sc hc P = ca E sc hc fun d hc1 => cb E sc hc1 fun d2 hc2 => match d, d2 with
  | .int a, .int b => (-16777216 ≤ a ∧ a ≤ 16777216 ∧ -16777216 ≤ b ∧ b ≤ 16777216 ∧ b - a ≤ 16777216) ∧ P (.lst (rngD a b)) hc2
  | _, _ => False := rfl
theorem or_one (x : Int) : Builtin.bitOr x 1 = x + 1 - x % 2 := by rw [bitOr_and, bitAnd_m1]
end Mn
namespace Mn
open PySem PySem.Spec PyProof.Rows L2
def cRs (ca cb : CEx) : CEx := fun E sc hc P => ca E sc hc fun d hc1 => match d with
  | .str a => cb E sc hc1 fun d2 hc2 => match d2 with
    | .str b => a.length ≤ sizeLine ∧ P (.str (Txt.rstripChars a b)) hc2
    | _ => False
  | _ => False
section
variable {X : Cx} {W : WX} {e e2 : Expr} {ca cb : CEx} {apos pos : Pos}
end
theorem e_Rs {ca cb : CEx} {E : XP} {sc : List Sl} {hc : CH} {P : D → CH → Prop} : cRs ca cb E sc hc P = ca E sc hc fun d hc1 => match d with
  | .str a => cb E sc hc1 fun d2 hc2 => match d2 with
    | .str b => a.length ≤ sizeLine ∧ P (.str (Txt.rstripChars a b)) hc2
    | _ => False
  | _ => False := rfl
end Mn
namespace Mn
open PySem PySem.Spec PyProof.Rows L2
def rngN (lo : Int) (n : Nat) : List D := (List.range n).map fun k : Nat => D.int (lo + (k : Int) * -1)
def cR3 (ca : CAx) : CIx := fun E sc hc P => ca E sc hc fun ds hc1 => match ds with | [.int i, .int j, .int c] => (c = -1 ∧ i.natAbs < 2 ^ 60 ∧ j.natAbs < 2 ^ 60) ∧ P (rngN i (i - j).toNat) hc1 | _ => False
section
variable {X : Cx} {W : WX} {tg e : Expr} {ca : CAx} {pos : Pos}
end
theorem e_R3 {ca : CAx} {E : XP} {sc : List Sl} {hc : CH} {P : List D → CH → Prop} : cR3 ca E sc hc P = ca E sc hc fun ds hc1 => match ds with | [.int i, .int j, .int c] => (c = -1 ∧ i.natAbs < 2 ^ 60 ∧ j.natAbs < 2 ^ 60) ∧ P (rngN i (i - j).toNat) hc1 | _ => False := rfl
end Mn
namespace Mn
open PySem PySem.Spec PyProof.Rows L2
set_option maxHeartbeats 1000000 in
theorem enum_made {z : Value} {ob : Obj} {Hq : Heap → Prop} (B : Begins z ob Hq) :
    Meets (Builtin.«enumerate.__new__» ⟨[.type "enumerate", z], []⟩) (fun _ R s => Hq s.heap ∧
      R (.ok (.ret (.ref (s.heap.push ob).objs.size))) { s with heap := (s.heap.push ob).push { cls := .type "enumerate", data := .fields #[.none, .bool false, .ref s.heap.objs.size, rawInt 0, .none, .none] } }) :=
  .of_wp fun prog w A R s y => by
    obtain ⟨hp, g, d, tk, os⟩ := s
    obtain ⟨y1, y⟩ := y
    have hsub := sub_enumerate
    have go : ∀ {A2 : Around} {E2 : Value → Shared → Prop} {Q2 : Value → Shared → Prop}, Q2 (.ref hp.objs.size) ⟨hp.push ob, g, d, tk, os⟩ → wpAny (model prog w) A2 (pyIter z) Q2 E2 ⟨hp, g, d, tk, os⟩ := fun q => B.iter prog w _ _ ⟨hp, g, d, tk, os⟩ _ y1 q
    wp_walk using go
    refine wpAny_stack_any fun st => wpAny_pure ?_
    split
    · rename_i cl _ _ _ _ _
      cases (cl == Value.type "enumerate") <;> (wp_walk using go; exact ⟨_, rfl, y⟩)
    · wp_walk using go
      exact ⟨_, rfl, y⟩
theorem enum_call {P : Program} {w : World} {A : Around} {E : Value → Shared → Prop} {s : Shared} {z : Value} {ob : Obj} {Hq : Heap → Prop} {Q : Value → Shared → Prop} (B : Begins z ob Hq) (y1 : Hq s.heap)
    (y : ∀ h2, IsEnum h2 (s.heap.objs.size + 1) s.heap.objs.size 0 .none → h2.get? s.heap.objs.size = some ob → (∀ b o, s.heap.get? b = some o → h2.get? b = some o) → Q (.ref (s.heap.objs.size + 1)) { s with heap := h2 }) :
    wpAny (model P w) A (call (.type "enumerate") [z]) Q E s := by
  refine callType_new F.called_enumerate (by decide) (F.typeCall_enumerate_1 _) (F.newCall_enumerate_1 _) (fun x => F.args_object_init_2 x _) F.entry_enumerate_new (enum_made B) ⟨y1, ?_⟩
  have sz : (s.heap.push ob).objs.size = s.heap.objs.size + 1 := Heap.size_push ..
  show _ ∧ _
  rw [sz]
  have ie : IsEnum ((s.heap.push ob).push { cls := .type "enumerate", data := .fields #[.none, .bool false, .ref s.heap.objs.size, rawInt 0, .none, .none] }) (s.heap.objs.size + 1) s.heap.objs.size 0 .none := by
    have := Heap.get?_push_size (s.heap.push ob) (o := { cls := .type "enumerate", data := .fields #[.none, .bool false, .ref s.heap.objs.size, rawInt 0, .none, .none] }) rfl
    rw [sz] at this
    exact this
  exact ⟨⟨_, ie, rfl⟩, y _ ie (Heap.get?_push_of_some _ (Heap.get?_push_size _ B.free)) fun b o x => Heap.get?_push_of_some _ (Heap.get?_push_of_some _ x)⟩
def enuL (xs : List D) : List D := xs.mapIdx fun i x => D.tup [.int (i : Nat), x]
theorem enu_at {xs : List D} {i : Nat} {d : D} (h : (enuL xs)[i]? = some d) : ∃ x, xs[i]? = some x ∧ d = .tup [.int (i : Nat), x] := by
  unfold enuL at h
  rw [List.getElem?_mapIdx] at h
  cases ex : xs[i]? with
  | none => rw [ex] at h; cases h
  | some x => rw [ex] at h; cases h; exact ⟨x, rfl, rfl⟩
theorem enu_len {xs : List D} : (enuL xs).length = xs.length := List.length_mapIdx
def enuP (ds : List D) (P : List D → CH → Prop) (hc : CH) : Prop := match ds with
  | [.lst xs] => P (enuL xs) hc
  | [.tup xs] => P (enuL xs) hc
  | _ => False
def cEnum (c1 : CEx) : CIx := fun E sc hc P => cCons c1 cNil E sc hc fun ds hc1 => enuP ds P hc1
theorem e_Enum {c1 : CEx} {E : XP} {sc : List Sl} {hc : CH} {P : List D → CH → Prop} : cEnum c1 E sc hc P = cCons c1 cNil E sc hc fun ds hc1 => enuP ds P hc1 := rfl
theorem o_enL {xs : List D} {hc : CH} {P : List D → CH → Prop} : enuP [.lst xs] P hc = P (enuL xs) hc := rfl
theorem o_enT {xs : List D} {hc : CH} {P : List D → CH → Prop} : enuP [.tup xs] P hc = P (enuL xs) hc := rfl
end Mn
namespace Mn
open PySem PySem.Spec PyProof.Rows L2
section
variable {P : Program} {w : World} {A : Around} {E : Value → Shared → Prop} {s : Shared}
end
def cSrtS (c1 : CEx) : CEx := fun E sc hc P => c1 E sc hc fun d hc1 => match d with
  | .lst xs => ∃ ns : List Int, xs = ns.map D.int ∧ ns.length ≤ 4000 ∧ ∀ ms : List Int, ms.Pairwise (· < ·) → (∀ k, k ∈ ms ↔ k ∈ ns) → ms.length ≤ ns.length → P (.lst (ms.map D.int)) hc1
  | _ => False
theorem e_SrtS {c1 : CEx} {E : XP} {sc : List Sl} {hc : CH} {P : D → CH → Prop} : cSrtS c1 E sc hc P = c1 E sc hc fun d hc1 => match d with
  | .lst xs => ∃ ns : List Int, xs = ns.map D.int ∧ ns.length ≤ 4000 ∧ ∀ ms : List Int, ms.Pairwise (· < ·) → (∀ k, k ∈ ms ↔ k ∈ ns) → ms.length ≤ ns.length → P (.lst (ms.map D.int)) hc1
  | _ => False := rfl
end Mn
namespace Mn
open PySem PySem.Spec PyProof.Rows L2
section
variable {X : Cx}
theorem rep_blv {K : PySem.W.Frag} {H : Hp} {m : Ms} {b : Bool} : Rep K H m (.bl b) (.bl b) := by unfold Rep; rfl
def allD : On := fun ds hc P => match ds with
  | [.lst xs] => ∃ ns : List Bool, xs = ns.map D.bl ∧ P (.bl (ns.all id))
  | _ => False
theorem o_all1 {hc : CH} {P : D → Prop} {xs : List D} : allD [.lst xs] hc P = ∃ ns : List Bool, xs = ns.map D.bl ∧ P (.bl (ns.all id)) := rfl
end
end Mn
namespace Mn
open PySem PySem.Spec PyProof.Rows L2
def repS (x : Str) (n : Int) : Str := ⟨(List.replicate n.toNat x.cps.toList).flatten.toArray⟩
def mulTD : O2
  | .str x, .int n, _, P => (0 ≤ n ∧ n ≤ 1000 ∧ 0 < x.length ∧ x.length ≤ 1000) ∧ P (.str (repS x n))
  | _, _, _, _ => False
section
variable {X : Cx}
def inXD : O2 := fun x y hc P => match y with
  | .str z => match x with
    | .str s => ∃ c : Nat, s = ⟨#[c]⟩ ∧ P (.bl (decide (c ∈ z.cps.toList)))
    | _ => False
  | _ => inD x y hc P
theorem op_inXD {k : Nat} (g : RG k X.A) : OpR X (compareOp .In) (LV2 X.K inXD) := by
  intro pins s σ H x y v u Q I rx ry h
  obtain ⟨hc, m, dx, dy, P, w, h1, h2, f, fin⟩ := h
  unfold inXD at f
  split at f
  · split at f
    · unfold RepW Rep at h1 h2
      subst h1; subst h2
      obtain ⟨c, rfl, k⟩ := f
      exact op_in_sign pins s σ H _ _ v u Q I rx ry ⟨c, _, rfl, rfl, fin _ k _ _ (.refl H) rep_blv⟩
    · exact f.elim
  · exact op_inDD g pins s σ H x y v u Q I rx ry ⟨hc, m, dx, dy, P, w, h1, h2, f, fin⟩
end
def signsD (z : Str) : List D := z.cps.toList.map fun c => D.str ⟨#[c]⟩
theorem signs_at {z : Str} {i : Nat} {d : D} (h : (signsD z)[i]? = some d) : ∃ c, z.cps[i]? = some c ∧ d = .str ⟨#[c]⟩ := by
  unfold signsD at h
  rw [List.getElem?_map, Array.getElem?_toList] at h
  cases e : z.cps[i]? with
  | none => rw [e] at h; cases h
  | some c => rw [e] at h; cases h; exact ⟨c, rfl, rfl⟩
theorem signs_len {z : Str} : (signsD z).length = z.length := by
  unfold signsD
  rw [List.length_map, Array.length_toList]
  rfl
def cItS (ce : CEx) : CIx := fun E sc hc P => ce E sc hc fun d hc1 => match d with | .str z => P (signsD z) hc1 | _ => False
section
variable {X : Cx} {W : WX} {tg e : Expr} {ce : CEx}
end
theorem e_ItS {ce : CEx} {E : XP} {sc : List Sl} {hc : CH} {P : List D → CH → Prop} : cItS ce E sc hc P = ce E sc hc fun d hc1 => match d with | .str z => P (signsD z) hc1 | _ => False := rfl
def IteS (x : Str) : It :=
  ⟨fun i _ => i < x.cps.size, fun i H v H2 => ∃ N c, v = .ref N ∧ H N = none ∧ H2 = upd H N (.tup [.int (i : Nat), .str ⟨#[c]⟩]) ∧ x.cps[i]? = some c, fun i _ => x.cps.size ≤ i⟩
theorem turn_enS {P : Program} {w : World} {K : PySem.W.Frag} {elts : List Expr} {kk : Nat} {tpos : Pos} (x : Str) (t : Tok) (e it : Addr) :
    Turn P w K (.Tuple elts kk tpos) (IteS x) [e, it] e (fun i h => (∃ old, IsEnum h e it ((i : Nat) : Int) old) ∧ h.IsStrIter it (strIterType x) x t i ∧ e ≠ it) where
  mem := List.mem_cons_self ..
  obj := fun i h st b hb => by
    obtain ⟨⟨old, ie⟩, ⟨o, ho, hcl, hdt⟩, _⟩ := st
    rcases List.mem_cons.mp hb with rfl | hb
    · exact ⟨_, ie, fun v q => nomatch q⟩
    · cases List.mem_singleton.mp hb
      exact ⟨o, ho, fun v q => by rw [hdt] at q; cases q⟩
  keep := fun i h h2 st k => by
    obtain ⟨⟨old, ie⟩, ⟨o, ho, r⟩, ne⟩ := st
    exact ⟨⟨old, k e (List.mem_cons_self ..) _ ie⟩, ⟨o, k it (List.mem_cons_of_mem _ (List.mem_singleton_self _)) o ho, r⟩, ne⟩
  item := by
    intro X eP ew eK cal i pins s σ H E I apart st gd
    subst eP ew eK
    obtain ⟨⟨old, ie⟩, hit, ne⟩ := st
    have le : e < s.heap.objs.size := Heap.lt_size ie
    have li : it < s.heap.objs.size := by obtain ⟨_, q, _⟩ := hit; exact Heap.lt_size q
    have D := Draws.text (prog := X.prog) (w := X.w) (A := X.A.in1) (I.ok.hd cal) it x t
    refine wpAny_pyNext_enum_itemD D ie hit gd ne ?_ fun y h2 tk hy out st2 hN hsz hk => ?_
    · intro q
      exact ne (List.mem_singleton.mp q)
    obtain ⟨c, u, hc, rfl⟩ := hy
    refine ⟨_, rfl, wpAny_letOwnedTupleGo_enum (s := { s with heap := h2, toks := tk + 1 }) out fun h3 ie3 sb => ?_⟩
    have hN3 : h3.get? s.heap.objs.size = some { cls := .type "tuple", data := .seq #[.int i tk, .str ⟨#[c]⟩ u] } := (sb.2 _ (Nat.ne_of_gt le)).trans hN
    have new : ObjOk X.prog X.w (upd H s.heap.objs.size (.tup [.int (i : Nat), .str ⟨#[c]⟩])) h3 s.heap.objs.size (.tup [.int (i : Nat), .str ⟨#[c]⟩]) :=
      ⟨show 2 ≤ sizeLine by decide, [.int i tk, .str ⟨#[c]⟩ u], .cons ⟨_, rfl⟩ (.cons ⟨_, rfl⟩ .nil), ⟨_, hN3, rfl, _, rfl⟩⟩
    have I1 : Inv X pins σ (upd H s.heap.objs.size (.tup [.int (i : Nat), .str ⟨#[c]⟩])) { s with heap := h3, toks := tk + 1 } :=
      I.turnedNew (t' := tk + 1) (ch := [e, it]) (fun b ob hb q => (sb.2 b (fun z => hb (z ▸ List.mem_cons_self ..))).trans (hk b ob (fun z => hb (z ▸ List.mem_cons_self ..)) (fun z => hb (z ▸ List.mem_cons_of_mem _ (List.mem_singleton_self _))) q)) apart (Nat.le_refl _) new
    have sit : h3.IsStrIter it (strIterType x) x t (i + 1) := by
      obtain ⟨o, ho, r⟩ := st2
      exact ⟨o, (sb.2 it (Ne.symm ne)).trans ho, r⟩
    refine ⟨.ref s.heap.objs.size, _, I1, rfl, ⟨_, c, rfl, I.hok.fresh (Nat.le_refl _), rfl, hc⟩, ⟨⟨.str ⟨#[c]⟩ u, ?_⟩, sit, ne⟩, fun b hb => ?_⟩
    · rw [show ((i + 1 : Nat) : Int) = (i : Int) + 1 by omega]
      exact ie3
    · have lb : b < s.heap.objs.size := by
        rcases List.mem_cons.mp hb with rfl | hb
        · exact le
        · cases List.mem_singleton.mp hb
          exact li
      exact (upd_ne (Nat.ne_of_lt lb)).trans (apart b hb).1
  done := by
    intro X eP ew eK cal i pins s σ H E I apart st gd
    subst eP ew eK
    obtain ⟨⟨old, ie⟩, hit, ne⟩ := st
    obtain ⟨f0, f1, f2, f3, f4, f5⟩ := apart it (List.mem_cons_of_mem _ (List.mem_singleton_self _))
    have hT : s.TypeIs (.ref e) "enumerate" := ⟨_, ie, rfl⟩
    unfold pyNext
    refine wpAny_bind (wpAny_attempt (wpAny_callSpecial?_slot (name := Str.ofString "__next__") hT F.slot_enumerate_next
      (wpAny_call_entry F.slot_enumerate_next hT F.entry_enumerate_next ?_ (F.args_enumerate_next_1 _))))
    show wpAny _ _ (field (.ref e) 2 >>= _) _ _ _
    refine wpAny_bind (wpAny_field ie rfl (x := .ref it) rfl ?_)
    have nx : ∀ {Q E2 : Value → Shared → Prop}, (∀ h2 x, Heap.ExtBut it s.heap h2 → (∃ o, h2.get? x = some o ∧ o.cls = .type "StopIteration") → E2 (.ref x) { s with heap := h2 }) → wpAny (model X.prog X.w) X.A.in1 (Builtin.SmallTypes.nextOf (.ref it)) Q E2 s := fun {Q E2} q => by
      have hx : x.cps[i]? = none := Array.getElem?_eq_none gd
      cases ha : x.cps.all (· < 128)
      · simp only [strIterType, ha, Bool.false_eq_true, if_false] at hit
        exact wpAny_nextOf_wide_end (I.ok.hd cal) hit hx q
      · simp only [strIterType, ha, if_true] at hit
        exact wpAny_nextOf_ascii_end (I.ok.hd cal) hit hx q
    refine wpAny_bind (nx fun h2 x eb hx => ?_)
    obtain ⟨o, ho, hcl⟩ := hx
    refine wpAny_bind (wpAny_isInstance (T := "StopIteration") (b := true) ⟨o, ho, hcl⟩ isSubtype_stop ?_)
    exact wpAny_pure ⟨rfl, I.turned (t' := s.toks) (fun b o hb q => eb b o hb q) f0 f1 f3 f4 f5⟩
  self := fun A i s Q E st y => by
    obtain ⟨⟨_, ie⟩, _⟩ := st
    exact wpAny_pyIter_enum ie y
def iEnS (ta : TA) : TI := fun σ H R => ta σ H fun vs H1 => ∃ x, vs = [.str x] ∧ R (IteS x) H1
theorem pi_enS {X : Cx} {e : Expr} {ta : TA} {p pos tpos : Pos} {elts : List Expr} {kk : Nat} (hg : Gl X "enumerate") (hm : X.mg "enumerate" = none) (ha : PA X [e] ta) (hs : starEach [e] X.env = [(false, eval e X.env)] := by rfl) :
    PI X (.Tuple elts kk tpos) (.Call (.Name "enumerate" p) [e] [] pos) (iEnS ta) := by
  refine ⟨fun pins s σ H R I y => ?_⟩
  refine Call_ (ld_blt I hg hm boot_enumerate (PyProof.Rows.callWith_type1 (thn (ha.run pos pins s σ H _ I y) fun us s1 ⟨vs, H1, I1, r1, q1⟩ => ?_) hs rfl))
  obtain ⟨x, ev, q⟩ := q1
  subst ev
  cases r1 with
  | cons r rr =>
    cases rr
    obtain ⟨t, rfl⟩ := r
    have ap : ∀ b ∈ [s1.heap.objs.size + 1, s1.heap.objs.size], s1.heap.objs.size ≤ b := fun b hb => by
      rcases List.mem_cons.mp hb with rfl | hb
      · exact Nat.le_add_right _ _
      · cases List.mem_singleton.mp hb
        exact Nat.le_refl _
    refine enum_call (begins_text x t) trivial fun h2 ie hit hk => wpAny_pyIter_enum ie ?_
    have I2 : Inv X pins σ H1 { s1 with heap := h2 } := I1.kept (t' := s1.toks) hk
    exact ⟨s1.heap.objs.size + 1, [s1.heap.objs.size + 1, s1.heap.objs.size], _, _, H1, rfl, I2, turn_enS x t (s1.heap.objs.size + 1) s1.heap.objs.size, ⟨⟨.none, ie⟩, ⟨_, hit, rfl, rfl⟩, Nat.succ_ne_self _⟩, fun b hb => I1.fpOk (ap b hb) (I1.hok.fresh (ap b hb)), q⟩
def enuSP (ds : List D) (P : List D → CH → Prop) (hc : CH) : Prop := match ds with
  | [.str z] => P (enuL (signsD z)) hc
  | _ => False
def cEnumS (c1 : CEx) : CIx := fun E sc hc P => cCons c1 cNil E sc hc fun ds hc1 => enuSP ds P hc1
theorem ci_enumS {X : Cx} {W : WX} {elts : List Expr} {kk : Nat} {tpos p pos : Pos} {e : Expr} {c1 : CEx} (hm : X.mg "enumerate" = none) (h1 : CE X W e c1) (hg : Gl X "enumerate" := by rfl) (hs : starEach [e] X.env = (false, eval e X.env) :: starEach [] X.env := by rfl) (hs1 : starEach [e] X.env = [(false, eval e X.env)] := by rfl) :
    CI X W (.Tuple elts kk tpos) (.Call (.Name "enumerate" p) [e] [] pos) (cEnumS c1) := ⟨pi_wk (pi_enS hg hm (ca_cons h1 ca_nil hs).p hs1) fun σ H R ⟨en, sc, hc, m, E, P, r, k, xo, fin⟩ =>
  ⟨en, sc, hc, m, E, fun ds hc1 => enuSP ds P hc1, r, k, xo, fun ds hc1 pz vs H1 m1 x1 q => by
    have mu1 := (r.call x1).mu
    have pz : enuSP ds P hc1 := pz
    unfold enuSP at pz
    split at pz
    · rename_i z _
      unfold RepL at q
      obtain ⟨v1, r1, rfl, qa, q⟩ := q
      unfold RepL at q
      subst q
      unfold Rep at qa
      subst qa
      refine ⟨z, rfl, fin _ hc1 pz _ H1 m1 x1 fun H2 m2 mo s2 i => ⟨fun d ed => ?_, fun hl => ?_⟩⟩
      · obtain ⟨y, ey, rfl⟩ := enu_at ed
        obtain ⟨c, ec, rfl⟩ := signs_at ey
        refine ⟨(Array.getElem?_eq_some_iff.mp ec).1, fun x3 H3 ⟨T, c', e3, nT, eH, ec'⟩ => ?_⟩
        rw [ec] at ec'; cases ec'
        subst e3
        subst eH
        exact ⟨same_upd nT, rep_tup mo nT (RepL.cons rep_int (RepL.cons rep_str RepL.nil))⟩
      · rw [enu_len, signs_len] at hl
        exact hl
    · exact pz.elim⟩⟩
theorem e_EnumS {c1 : CEx} {E : XP} {sc : List Sl} {hc : CH} {P : List D → CH → Prop} : cEnumS c1 E sc hc P = cCons c1 cNil E sc hc fun ds hc1 => enuSP ds P hc1 := rfl
theorem o_enS {z : Str} {hc : CH} {P : List D → CH → Prop} : enuSP [.str z] P hc = P (enuL (signsD z)) hc := rfl
def cJn (ca cb : CEx) : CEx := fun E sc hc P => ca E sc hc fun d hc1 => match d with
  | .str a => cb E sc hc1 fun d2 hc2 => match d2 with
    | .lst xs => ∃ ys : List Str, xs = ys.map D.str ∧ (ys.map (·.length)).sum + ys.length * a.length ≤ 16777216 ∧ P (.str (Txt.join a ys)) hc2
    | _ => False
  | _ => False
def cIxS (ca cb : CEx) : CEx := fun E sc hc P => ca E sc hc fun d hc1 => match d with
  | .str a => cb E sc hc1 fun d2 hc2 => match d2 with
    | .str b => ∃ (i : Nat) (rest : List Nat), Builtin.Str.occurrences a b 0 a.length 1 = i :: rest ∧ P (.int (i : Int)) hc2
    | _ => False
  | _ => False
section
variable {X : Cx} {W : WX} {e e2 : Expr} {ca cb : CEx} {apos pos : Pos}
end
theorem e_Jn {ca cb : CEx} {E : XP} {sc : List Sl} {hc : CH} {P : D → CH → Prop} : cJn ca cb E sc hc P = ca E sc hc fun d hc1 => match d with
  | .str a => cb E sc hc1 fun d2 hc2 => match d2 with
    | .lst xs => ∃ ys : List Str, xs = ys.map D.str ∧ (ys.map (·.length)).sum + ys.length * a.length ≤ 16777216 ∧ P (.str (Txt.join a ys)) hc2
    | _ => False
  | _ => False := rfl
theorem e_IxS {ca cb : CEx} {E : XP} {sc : List Sl} {hc : CH} {P : D → CH → Prop} : cIxS ca cb E sc hc P = ca E sc hc fun d hc1 => match d with
  | .str a => cb E sc hc1 fun d2 hc2 => match d2 with
    | .str b => ∃ (i : Nat) (rest : List Nat), Builtin.Str.occurrences a b 0 a.length 1 = i :: rest ∧ P (.int (i : Int)) hc2
    | _ => False
  | _ => False := rfl
theorem lim_ok {M : Model} {A : Around} {E : Value → Shared → Prop} {s : Shared} {Q : Nat → Shared → Prop} (S : Stat s.heap) (k : Q 4300 s) : wpAny M A Builtin.intMaxStrDigits Q E s := by
  obtain ⟨⟨mc, N, z⟩, _⟩ := S
  unfold Builtin.intMaxStrDigits
  refine wpAny_bind (wpAny_nsGet N ?_)
  rw [z]
  exact wpAny_pure k
theorem wp_textL {M : Model} {A : Around} {E : Value → Shared → Prop} {s : Shared} {Q : Value → Shared → Prop} {v : Value} {text : List Nat} {n : Int} (S : Stat s.heap)
    (hs : ¬ (text.takeWhile (· != 0)).length ≤ 640) (hr : (int_private% "readNumeral") 4300 10 (text.takeWhile (· != 0)) = (int_private% "Numeral.value") n)
    (ha : ((text.takeWhile (· != 0)).length == text.length) = true) (h : Q (.int n s.toks) { s with toks := s.toks + 1 }) :
    wpAny M A ((int_private% "intFromText") v text 10) Q E s := by
  have go : ∀ {A2 : Around} {E2 : Value → Shared → Prop} {Q2 : Nat → Shared → Prop}, Q2 4300 s → wpAny M A2 Builtin.intMaxStrDigits Q2 E2 s := fun q => lim_ok S q
  obtain ⟨hp, g, d, tk, os⟩ := s
  repeat (any_goals (first
    | assumption
    | (with_reducible refine go ?_)
    | (with_reducible refine wpAny_ite_false (decide_eq_false hs) ?_)
    | (with_reducible refine wpAny_ite_true (decide_eq_true ha) ?_)
    | wp_step))
  all_goals (try rw [hr])
  all_goals (try dsimp only)
  repeat (any_goals (first
    | assumption
    | (with_reducible refine go ?_)
    | (with_reducible refine wpAny_ite_false (decide_eq_false hs) ?_)
    | (with_reducible refine wpAny_ite_true (decide_eq_true ha) ?_)
    | wp_step))
structure HidL (p : Prop) : Prop where
  out : p
set_option maxHeartbeats 4000000 in
open PySem.W.KIN in
theorem meets_textL {x : PySem.Str} {u : Tok} {n : Int} (hl : ¬ (numSeenOf x).length ≤ 640) (hx : x.length ≤ sizeLine) (hn : PySem.intText? x = some n) :
    Meets (Builtin.«int.__new__» ⟨[.type "int", .str x u], []⟩) (fun _ R s => Stat s.heap ∧ R (.ok (.ret (.int n s.toks))) { s with toks := s.toks + 1 }) := fun prog w A R s ⟨S, h⟩ => by
  have h2 : wpAny (model prog w) A.in1 (Builtin.«int.__new__» ⟨[.type "int", .str x u], []⟩) (fun fin s' => ∃ v, fin = .done (.ret v) ∧ R (.ok (.ret v)) s') (fun e s' => R (.error e) s') s := by
    have f1 := PySem.F.conv_sub_int
    have f2 := PySem.F.madeHere_int
    have f3 := str_int
    have f4 := str_idx
    have f5 := str_trunc
    have f6 : typeOf (.str x u) = pure (.type "str") := rfl
    have hr : (int_private% "readNumeral") 4300 10 (numSeenOf x) = (int_private% "Numeral.value") n ∧ ((numSeenOf x).length == (numTextOf x).length) = true := by
      rcases read4300 x hx with ⟨m, h1, h2, h3⟩ | ⟨h1, _⟩
      · rw [hn] at h1
        injection h1 with h1
        subst h1
        exact ⟨h3, h2⟩
      · rw [hn] at h1
        cases h1
    have hk := HidL.mk (And.intro S (And.intro hl hr))
    clear S hl hr hn hx
    obtain ⟨hp, g, d, tk, os⟩ := s
    repeat (any_goals (first
      | assumption
      | ((with_reducible show wpAny _ _ ((int_private% "intFromText") _ _ _) _ _ _); refine wp_textL hk.out.1 hk.out.2.1 hk.out.2.2.1 hk.out.2.2.2 ?_)
      | wp_step))
    all_goals first | exact ⟨_, rfl, h⟩ | skip
  exact wpAny_mono h2 (fun fin s' h' => by obtain ⟨v, rfl, hv⟩ := h'; exact hv) fun _ _ x => x
theorem seen_digits {x : PySem.Str} (h : PySem.NumText.AllDigits x.cps.toList) : (numSeenOf x).length = x.length := by
  obtain ⟨e1, e2⟩ := PySem.numText_signs fun c hc => Or.inr (h c hc)
  first
    | rw [e2, Array.length_toList]; rfl
    | rw [e1, Array.length_toList]; rfl
theorem call_textL {prog : Program} {w : World} {A : Around} {E : Value → Shared → Prop} {s : Shared} {Q : Value → Shared → Prop} {x : PySem.Str} {t : Tok} (S : Stat s.heap) (hd : PySem.NumText.AllDigits x.cps.toList) (h1 : x.cps.toList ≠ []) (hx : x.length ≤ 4300)
    (h : Q (.int ((PySem.NumText.digitsVal x.cps.toList : Nat) : Int) s.toks) { s with toks := s.toks + 1 }) : wpAny (model prog w) A (call (.type "int") [.str x t]) Q E s := by
  have hn := PySem.intText_digits hd h1 hx
  by_cases hl : x.length ≤ 640
  · exact PySem.W.KIN.call_text hn hl h
  · exact call_int_1 (meets_textL (by rw [seen_digits hd]; exact hl) (by rw [sizeLine_eq]; omega) hn) ⟨S, rfl, h⟩
def intTD : On := fun ds _ P => match ds with
  | [.int i] => P (.int i)
  | [.bl b] => P (.int (if b then 1 else 0))
  | [.str a] => (PySem.NumText.AllDigits a.cps.toList ∧ a.cps.toList ≠ [] ∧ a.length ≤ 4300) ∧ P (.int ((PySem.NumText.digitsVal a.cps.toList : Nat) : Int))
  | [.str a, .int 16] => ((∀ c ∈ a.cps.toList, Hx.IsHex c) ∧ a.cps.toList ≠ [] ∧ a.length ≤ 640) ∧ P (.int ((Hx.hexNum a.cps.toList : Nat) : Int))
  | _ => False
theorem bt_intT {X : Cx} (st : statK X.K = true) : CallR X (.type "int") (LVn X.K intTD) := by
  intro pins s σ H xs us Q I r h
  obtain ⟨hc, m, ds, P, w, h1, f, fin⟩ := h
  unfold intTD at f
  split at f
  · obtain ⟨x, rfl, k1⟩ := wl1 h1
    unfold RepW Rep at k1
    subst k1
    exact call_int1 pins s σ H _ us Q I r (.inl ⟨_, rfl, fin _ f _ _ (.refl H) rep_int⟩)
  · obtain ⟨x, rfl, k1⟩ := wl1 h1
    unfold RepW Rep at k1
    subst k1
    exact call_int1 pins s σ H _ us Q I r (.inr ⟨_, rfl, fin _ f _ _ (.refl H) rep_int⟩)
  · obtain ⟨x, rfl, k1⟩ := wl1 h1
    unfold RepW Rep at k1
    subst k1
    obtain ⟨⟨f1, f2, f3⟩, f4⟩ := f
    obtain ⟨u, rfl, ru⟩ := vals1 r
    obtain ⟨t, rfl⟩ := ru
    exact call_textL (stat_of I.kIn I.nolimit st) f1 f2 f3 ⟨.int _, H, I.tok _, ⟨_, rfl⟩, fin _ f4 _ _ (.refl H) rep_int⟩
  · obtain ⟨x, y, rfl, k1, k2⟩ := wl2 h1
    unfold RepW Rep at k1 k2
    subst k1; subst k2
    obtain ⟨⟨f1, f2, f3⟩, f4⟩ := f
    rename_i a
    exact call_int_hex pins s σ H _ us Q I r ⟨a.cps.toList, rfl, f2, f3, f1, fin _ f4 _ _ (.refl H) rep_int⟩
  · exact f.elim
theorem o_iT1 {i : Int} {hc : CH} {P : D → Prop} : intTD [.int i] hc P = P (.int i) := rfl
theorem o_iT2 {b : Bool} {hc : CH} {P : D → Prop} : intTD [.bl b] hc P = P (.int (if b then 1 else 0)) := rfl
theorem o_iT3 {a : Str} {hc : CH} {P : D → Prop} : intTD [.str a] hc P = ((PySem.NumText.AllDigits a.cps.toList ∧ a.cps.toList ≠ [] ∧ a.length ≤ 4300) ∧ P (.int ((PySem.NumText.digitsVal a.cps.toList : Nat) : Int))) := rfl
theorem o_iT4 {a : Str} {hc : CH} {P : D → Prop} : intTD [.str a, .int 16] hc P = (((∀ c ∈ a.cps.toList, Hx.IsHex c) ∧ a.cps.toList ≠ [] ∧ a.length ≤ 640) ∧ P (.int ((Hx.hexNum a.cps.toList : Nat) : Int))) := rfl
theorem o_mT {x : Str} {n : Int} {hc : CH} {P : D → Prop} : mulTD (.str x) (.int n) hc P = ((0 ≤ n ∧ n ≤ 1000 ∧ 0 < x.length ∧ x.length ≤ 1000) ∧ P (.str (repS x n))) := rfl
theorem o_xS {s z : Str} {hc : CH} {P : D → Prop} : inXD (.str s) (.str z) hc P = ∃ c : Nat, s = ⟨#[c]⟩ ∧ P (.bl (decide (c ∈ z.cps.toList))) := rfl
theorem o_xT {x : D} {ys : List D} {hc : CH} {P : D → Prop} : inXD x (.tup ys) hc P = inD x (.tup ys) hc P := rfl
theorem o_xL {x : D} {ys : List D} {hc : CH} {P : D → Prop} : inXD x (.lst ys) hc P = inD x (.lst ys) hc P := rfl
end Mn
namespace Mn
open PySem PySem.Spec PyProof.Rows L2
abbrev tab0 : Obj := { cls := .none, data := .fields #[] }
abbrev tabA (K : PySem.W.Frag) : List Addr := (tabsL K).map (·.1)
def OnlyT (K : PySem.W.Frag) (H : Hp) : Prop := ∀ b, H b = none ∨ (b ∈ tabA K ∧ H b = some (.tbl #[])) ∨ ∃ o xs, H b = some (.frz o (.lst xs))
theorem law_inT {K : PySem.W.Frag} {mg : Str → Option Value} {H : Hp} {a : Addr} {ns : List Int} {E : XK} (hl : ns.length ≤ 63) (hO : OnlyT K H) (hT : ∀ b ∈ tabA K, H b = some (.tbl #[])) (hS : SqL K H a (ns.map V.int)) : toSp K mg spLaw [.ref a] H (fun v _ => v = .bl true) E := by
  refine ⟨fun _ => none, fun _ => False, [.frz (ns.map D.int)], fun d _ => d = .bl true, fun _ _ => False, ⟨fun p hp => .nil (hT _ (List.mem_map_of_mem hp)), fun _ z => z.elim, fun _ _ z => (nomatch z), fun _ _ z => (nomatch z)⟩, RepL.cons ?_ RepL.nil, ⟨ns, rfl, hl, fun _ => rfl⟩, fun d hc' e v H' m' x q => ?_, fun _ _ z => z.elim⟩
  · unfold Rep
    refine ⟨a, _, rfl, ?_, repl_ints ns⟩
    rcases hS with (h | ⟨o, h⟩) | h
    · rcases hO a with y | ⟨_, y⟩ | ⟨o, xs, y⟩ <;> (rw [h] at y; cases y)
    · exact .inl ⟨o, h⟩
    · exact .inr h
  · subst e
    unfold Rep at q
    exact q
def BaseT (K : PySem.W.Frag) (mg : Str → Option Value) (base : Heap) : Prop := ∀ b ∈ tabA K, base.BuiltinsAt mg b ∧ mainGlobals ≠ b
theorem tab_code {K : PySem.W.Frag} {b : Addr} (h : b ∈ tabA K) : ∃ c, PySem.W.codeHdIn K c b = true := by
  obtain ⟨p, hp, rfl⟩ := List.mem_map.mp h
  obtain ⟨⟨f, o⟩, _, e⟩ := List.mem_filterMap.mp hp
  unfold tabD at e
  split at e
  · split at e
    · rename_i c _
      by_cases z : PySem.W.codeHdIn K c (He.tabOf K c) = true
      · rw [if_pos z] at e
        cases e
        exact ⟨c, z⟩
      · rw [if_neg z] at e; cases e
    · cases e
  · cases e
section
variable {P : Program} {w : World} {K : PySem.W.Frag} {mg mb : Str → Option Value} {C : CXT} {k : Nat} {fa a : Addr} {fd : FuncData} {x : Str} {sp : Sp} {s : Shared} {vs : List Value} {ns : List Int}
theorem law_fromT (KX : K.In s.heap) (hns : s.heap.Ns mainGlobals mg) (hb : s.heap.Ns builtinsNs mb) (hbb : ∀ x : Str, x ≠ "__name__" → mb x = bootBuiltins x) (hlim : s.heap.NoLimit) (hg : s.gens = #[])
    (hbm : ∃ bm ob, mg "__builtins__" = some (.ref bm) ∧ bm ≠ builtinsNs ∧ s.heap.get? bm = some ob ∧ ob.cls = .type "module" ∧ ob.dict = some builtinsNs ∧ ob.data = .plain)
    (ht : ∀ b ∈ tabA K, s.heap.get? b = some tab0 ∧ K.lookup b = none) (ha : s.heap.get? a = some { cls := .type "list", data := .seq vs.toArray }) (hr : Room k callerA)
    (F : ∀ base : Heap, K.In base → base.Ns mainGlobals mg → BaseT K mg base → FnG P w K mg base C k fa fd [x] sp) (hbind : ∀ (s : Shared) (u : Value), BindsTo s fd ⟨[u], []⟩ [(x, u)])
    (hsp : ∀ H : Hp, OnlyT K H → (∀ b ∈ tabA K, H b = some (.tbl #[])) → SqL K H a (ns.map V.int) → sp [.ref a] H (fun v _ => v = .bl true) fun _ _ _ => False) (hCX : ∀ H e s', C [] H s (fun _ _ _ => False) e s' → False)
    (H : Hp) (hO : OnlyT K H) (hT : ∀ b ∈ tabA K, H b = some (.tbl #[])) (hS : SqL K H a (ns.map V.int)) (hok : HOk P w H s.heap) (hA : ∀ b, H b ≠ none → b = a ∨ b ∈ tabA K) (hK : H a ≠ none → K.lookup a = none) :
    codeAny (model P w) callerA (.call (.ref fa) ⟨[.ref a], []⟩) (fun r z => r = .ok (.ret (.bool true)) ∧ OldK s.heap z.heap ∧ z.os = s.os ∧ AllBare z.gens) s := by
  have hid : ∀ {b : Addr} {o : Obj}, s.heap.get? b = some o → H b = none → (hidT s.heap H).get? b = some o := fun e n => hidT_get e n
  have plain : ∀ {b : Addr} {o : Obj}, s.heap.get? b = some o → (∀ us n, o.data = .seq us n → False) → (o.data = .fields #[] → False) → H b = none := fun {b o} e n1 n2 => by
    cases q : H b with
    | none => rfl
    | some u =>
      rcases hA b (by rw [q]; simp) with z | z
      · subst z
        rw [ha] at e; cases e
        exact (n1 _ _ rfl).elim
      · rw [(ht b z).1] at e; cases e
        exact (n2 rfl).elim
  have noDict : ∀ {b : Addr} {o : Obj} {es : Array DictEntry} {ep : Nat}, s.heap.get? b = some o → o.data = .dict es ep → H b = none := fun {b o es ep} e d =>
    plain e (fun us n z => by rw [d] at z; cases z) fun z => by rw [d] at z; cases z
  have ns2 : ∀ {b : Addr} {m : Str → Option Value}, s.heap.Ns b m → (hidT s.heap H).Ns b m := fun ⟨o, es, ep, e, d, r⟩ => ⟨o, es, ep, hid e (noDict e d), d, r⟩
  have Kin : K.In (hidT s.heap H) := fun b o e => hid (KX b o e) (by
    cases q : H b with
    | none => rfl
    | some u =>
      have nn : H b ≠ none := by rw [q]; simp
      rcases hA b nn with z | z
      · subst z
        rw [hK nn] at e; cases e
      · rw [(ht b z).2] at e; cases e)
  have M : Mod K mg (hidT s.heap H) := ⟨Kin, ns2 hns, ⟨mb, ns2 hb, hbb⟩, hlim.imp fun mc h => ⟨ns2 h.1, h.2⟩⟩
  have e0 : Env0 P w K mg (hidT s.heap H) callerA [] s H := ⟨rfl, M, fun b o e => of_hidT e, Nat.le_of_eq (hidT_size _ _), trivial, fun b z => (List.not_mem_nil (show b ∈ ([] : List Addr) from z)).elim, hok, .of_eq hg⟩
  have B : BaseT K mg (hidT s.heap H) := fun b hb => by
    obtain ⟨bm, ob, b1, b2, b3, b4, b5, b6⟩ := hbm
    have e := (ht b hb).1
    have ng : mainGlobals ≠ b := fun z => by
      obtain ⟨o, es, ep, e2, d, _⟩ := hns
      rw [z, e] at e2; cases e2; cases d
    refine ⟨⟨bm, ob, b1, b2, fun z => ?_, fun z => ?_, hid b3 (plain b3 (fun us n z => by rw [b6] at z; cases z) fun z => by rw [b6] at z; cases z), b4, b5, b6⟩, ng⟩
    · obtain ⟨o, es, ep, e2, d, _⟩ := hns
      rw [z, e2] at b3; cases b3
      rw [b6] at d; cases d
    · rw [z, e] at b3; cases b3
      cases b6
  refine codeAny_mono ((F _ Kin (ns2 hns) B).run callerA [] s H ⟨[.ref a], []⟩ [.ref a] [.ref a] _ _ (callerG hr) e0 (hbind s (.ref a)) (.cons rfl .nil) (hsp H hO hT hS)) fun r z h => ?_
  match r, h with
  | .error e, h => exact (hCX H e z h).elim
  | .ok .next, h => exact False.elim h
  | .ok .brk, h => exact False.elim h
  | .ok .cont, h => exact False.elim h
  | .ok (.ret u), ⟨v, H', os, bare, un, hok2, rel, q⟩ =>
    have qv : v = .bl true := q
    subst qv
    cases (show u = Value.bool true from rel)
    have same : ∀ {b : Addr} {o : Obj}, s.heap.get? b = some o → b ∉ tabA K → z.heap.get? b = some o := fun {b o} e nt => by
      rcases hO b with q | ⟨q, _⟩ | ⟨ob, xs, q⟩
      · exact un.keep b o e q (fun z => List.not_mem_nil (show b ∈ ([] : List Addr) from z)) (fun z => List.not_mem_nil z)
      · exact absurd q nt
      · obtain ⟨e1, _⟩ := hok b _ q
        rw [e] at e1
        cases e1
        exact (hok2 b _ (un.frzs b _ _ q)).1
    have grew : ∀ {b : Addr}, b ∈ tabA K → ∃ more : Array Value, z.heap.get? b = some { cls := .none, data := .fields more } := fun {b} hb => by
      obtain ⟨more, e⟩ := un.tbls b #[] (hT b hb)
      exact ⟨_, hok2 b _ e⟩
    refine ⟨rfl, ⟨fun b o e => ?_, fun b o e => ?_⟩, os, bare⟩
    · by_cases hb : b ∈ tabA K
      · obtain ⟨more, e2⟩ := grew hb
        obtain ⟨c, hc⟩ := tab_code hb
        have e3 := (ht b hb).1
        rw [e] at e3; cases e3
        exact .inr (.inl ⟨((PySem.W.codeHd_of_K KX hc).tab (ht b hb).1).isCodeTable, rfl, #[], more, rfl, by rw [Array.empty_append]; exact e2⟩)
      · exact .inl (same e hb)
    · by_cases hb : b ∈ tabA K
      · obtain ⟨more, e2⟩ := grew hb
        exact ⟨_, e2⟩
      · exact ⟨o, same e hb⟩
theorem lawT (KX : K.In s.heap) (hns : s.heap.Ns mainGlobals mg) (hb : s.heap.Ns builtinsNs mb) (hbb : ∀ x : Str, x ≠ "__name__" → mb x = bootBuiltins x) (hlim : s.heap.NoLimit) (hg : s.gens = #[])
    (hbm : ∃ bm ob, mg "__builtins__" = some (.ref bm) ∧ bm ≠ builtinsNs ∧ s.heap.get? bm = some ob ∧ ob.cls = .type "module" ∧ ob.dict = some builtinsNs ∧ ob.data = .plain)
    (ht : ∀ b ∈ tabA K, s.heap.get? b = some tab0 ∧ K.lookup b = none) (ha : s.heap.get? a = some { cls := .type "list", data := .seq vs.toArray })
    (hi : IntsAre vs ns) (hl : ns.length ≤ sizeLine) (hr : Room k callerA) (F : ∀ base : Heap, K.In base → base.Ns mainGlobals mg → BaseT K mg base → FnG P w K mg base C k fa fd [x] sp) (hbind : ∀ (s : Shared) (u : Value), BindsTo s fd ⟨[u], []⟩ [(x, u)])
    (hsp : ∀ H : Hp, OnlyT K H → (∀ b ∈ tabA K, H b = some (.tbl #[])) → SqL K H a (ns.map V.int) → sp [.ref a] H (fun v _ => v = .bl true) fun _ _ _ => False) (hCX : ∀ H e s', C [] H s (fun _ _ _ => False) e s' → False) :
    codeAny (model P w) callerA (.call (.ref fa) ⟨[.ref a], []⟩) (fun r z => r = .ok (.ret (.bool true)) ∧ OldK s.heap z.heap ∧ z.os = s.os ∧ AllBare z.gens) s := by
  have rv := vals_ints hi
  have na : a ∉ tabA K := fun z => by
    have e := (ht a z).1
    rw [ha] at e; cases e
  let H0 : Hp := fun b => if b ∈ tabA K then some (.tbl #[]) else none
  have H0t : ∀ b, b ∈ tabA K → H0 b = some (.tbl #[]) := fun b h => if_pos h
  have H0n : ∀ b, b ∉ tabA K → H0 b = none := fun b h => if_neg h
  cases hk : K.lookup a with
  | some o =>
    have e := KX a o hk
    rw [ha] at e; cases e
    refine law_fromT KX hns hb hbb hlim hg hbm ht ha hr F hbind hsp hCX H0 (fun b => ?_) H0t (.inr ⟨_, vs.toArray, _, hk, rfl, rfl, rfl, by rw [List.size_toArray, hi.length]; exact hl, by simpa using rv⟩) (fun b u z => ?_) (fun b z => ?_) fun z => absurd (H0n a na) z
    · by_cases h : b ∈ tabA K
      · exact .inr (.inl ⟨h, H0t b h⟩)
      · exact .inl (H0n b h)
    · by_cases h : b ∈ tabA K
      · rw [H0t b h] at z; cases z
        exact (ht b h).1
      · rw [H0n b h] at z; cases z
    · exact .inr (Classical.byContradiction fun h => z (H0n b h))
  | none =>
    let H : Hp := fun b => if b = a then some (.frz { cls := .type "list", data := .seq vs.toArray } (.lst (ns.map V.int))) else H0 b
    have Ha : H a = some (.frz { cls := .type "list", data := .seq vs.toArray } (.lst (ns.map V.int))) := if_pos rfl
    have Hn : ∀ b, b ≠ a → H b = H0 b := fun b n => if_neg n
    have nt : ∀ b, b ∈ tabA K → b ≠ a := fun b h z => na (z ▸ h)
    refine law_fromT KX hns hb hbb hlim hg hbm ht ha hr F hbind hsp hCX H (fun b => ?_) (fun b h => by rw [Hn b (nt b h)]; exact H0t b h) (.inl (.inr ⟨_, Ha⟩)) (fun b u z => ?_) (fun b z => ?_) fun _ => hk
    · by_cases h : b = a
      · exact .inr (.inr (by rw [h]; exact ⟨_, _, Ha⟩))
      · rw [Hn b h]
        by_cases h2 : b ∈ tabA K
        · exact .inr (.inl ⟨h2, H0t b h2⟩)
        · exact .inl (H0n b h2)
    · by_cases h : b = a
      · subst h
        rw [Ha] at z; cases z
        exact ⟨ha, by rw [List.length_map]; exact hl, vs, _, rv, ha⟩
      · rw [Hn b h] at z
        by_cases h2 : b ∈ tabA K
        · rw [H0t b h2] at z; cases z
          exact (ht b h2).1
        · rw [H0n b h2] at z; cases z
    · by_cases h : b = a
      · exact .inl h
      · exact .inr (Classical.byContradiction fun h2 => z (by rw [Hn b h]; exact H0n b h2))
end
theorem walkT {l : PySem.W.OpenLaw} {n k : Nat} {q : Program} {loose : List Str} {XP : (Str → Option Value) → Heap → Prop} {YP : World → Heap → Prop} {d : DefRec} {x : Str} (hn : l.most = some n) (hn2 : n ≤ sizeLine) (hdf : d.params.defaults = []) (hr : Room k callerA)
    (F : ∀ (w : World) (mg : Str → Option Value) (fa : Addr) (h : Heap), YP w h → h.Ns mainGlobals mg → mg d.name = some (.ref fa) → ∃ (K : PySem.W.Frag) (fd : FuncData) (sp : Sp), K.In h ∧ (∀ b ∈ tabA K, h.get? b = some tab0 ∧ K.lookup b = none) ∧ (∀ (s : Shared) (u : Value), BindsTo s fd ⟨[u], []⟩ [(x, u)]) ∧
      (∀ (H : Hp) (a : Addr) (ns : List Int), ns.length ≤ n → OnlyT K H → (∀ b ∈ tabA K, H b = some (.tbl #[])) → SqL K H a (ns.map V.int) → sp [.ref a] H (fun v _ => v = .bl true) fun _ _ _ => False) ∧
      ∀ base : Heap, K.In base → base.Ns mainGlobals mg → BaseT K mg base → FnG l.prog w K mg base (L2.CX l.prog w) k fa fd [x] sp) : PySem.W.WalkO q loose XP YP l.row.toRowW d [] (fun f vs => PySem.call f vs) :=
  Att.attach_call hn hdf fun w s₀ s₁ mg mb fa o pm cd doc a vs ns G Y ho hd hcd hmg hobj hints hlen hg => by
    obtain ⟨K, fd, sp, KX, ht, hb, hsp, hF⟩ := F w mg fa _ Y G.T.g hmg
    exact lawT KX G.T.g G.T.b G.T.builtins G.T.nolimit hg G.T.bmain ht hobj hints (Nat.le_trans hlen hn2) hr hF hb (fun H hO hT hS => hsp H a ns hlen hO hT hS) fun H e s' ⟨_, _, _, _, _, _, _, _, _, _, _, _, z⟩ => z
theorem law_finT {P : Program} {w : World} {K : PySem.W.Frag} {mg : Str → Option Value} {h : Heap} {fa : Addr} {k : Nat} {x : Str} {st : Stmt} (KX : K.In h) (ht : ∀ b ∈ tabA K, h.get? b = some tab0 ∧ K.lookup b = none) (T : DefAt K mg "law" st) (hmg : mg "law" = some (.ref fa))
    (hbi : ∀ (kV doc pm : Value) (an : Option Addr) (cdv ct : Value) (us : List Value), us.length = ([x] : List Str).length → bindArgs (PySem.W.fnOf "law" "law" (defArgs st) (defBody st) (defScope st) .none kV doc pm an cdv ct) ⟨us, []⟩ = pure (([x] : List Str).zip us))
    (A : ∀ base : Heap, K.In base → BaseT K mg base → FnAt P w K mg base k "law" [x] spLaw) :
    ∃ (K : PySem.W.Frag) (fd : FuncData) (sp : Sp), K.In h ∧ (∀ b ∈ tabA K, h.get? b = some tab0 ∧ K.lookup b = none) ∧ (∀ (s : Shared) (u : Value), BindsTo s fd ⟨[u], []⟩ [(x, u)]) ∧
        (∀ (H : Hp) (a : Addr) (ns : List Int), ns.length ≤ 63 → OnlyT K H → (∀ b ∈ tabA K, H b = some (.tbl #[])) → SqL K H a (ns.map V.int) → sp [.ref a] H (fun v _ => v = .bl true) fun _ _ _ => False) ∧
        ∀ base : Heap, K.In base → base.Ns mainGlobals mg → BaseT K mg base → FnG P w K mg base (L2.CX P w) k fa fd [x] sp := by
  obtain ⟨f, fd, F, hf⟩ := T
  have e : f = fa := by
    rw [hmg] at hf; cases hf; rfl
  subst e
  refine ⟨K, fd, toSp K mg spLaw, KX, ht, fun s u => F.bindsA hbi s [u] rfl, fun H a ns hl hO hT hS => law_inT hl hO hT hS, fun base KB _ B => ?_⟩
  obtain ⟨f', fd', G, hf', _, _, oc, od, osl, lk⟩ := A base KB B
  have e : f' = f := by
    rw [hmg] at hf'; cases hf'; rfl
  subst e
  obtain ⟨oc2, od2, dV, kV, doc, pm, an, cdv, ct, osl2, e2, lk2, _⟩ := F.ex
  rw [lk] at lk2
  cases lk2
  exact G
def tabsB (g : Addr → Option Obj) (K : PySem.W.Frag) : Bool := ((tabA K).all fun b => match g b with
  | some o => He.emptyTab o
  | none => false) && decide (tabA K).Nodup
def obsT (g : Addr → Option Obj) (fa : List He.Fa) (fn : List He.DefD) (tc : TupC) (K : PySem.W.Frag) : He.AlD × Bool := (He.obsD fa fn K, (statK K && tc.all fun t => tupN K t.1 t.2) && tabsB g K)
def obsTG (n : Nat) (fa : List He.Fa) (fn : List He.DefD) (tc : TupC) (g : Addr → Option Obj) : He.AlD × Bool := obsT g fa fn tc (He.frT g (He.asD g n ++ [sysModules, cStatics]))
def SaysT (fa : List He.Fa) (fn : List He.DefD) (tc : TupC) (K : PySem.W.Frag) (h : Heap) : Prop := SaysU fa fn tc K ∧ (tabA K).Nodup ∧ ∀ b ∈ tabA K, h.get? b = some tab0 ∧ K.lookup b = none
theorem saysT_of {n : Nat} {fa : List He.Fa} {fn : List He.DefD} {tc : TupC} {s : Shared} (e : obsTG n fa fn tc s.heap.get? = (He.valD fn, true)) : SaysT fa fn tc (He.frT s.heap.get? (He.asD s.heap.get? n ++ [sysModules, cStatics])) s.heap := by
  have e1 := congrArg (fun z : He.AlD × Bool => z.1) e
  have e2 : ((statK (He.frT s.heap.get? (He.asD s.heap.get? n ++ [sysModules, cStatics])) && tc.all fun t => tupN (He.frT s.heap.get? (He.asD s.heap.get? n ++ [sysModules, cStatics])) t.1 t.2) && tabsB s.heap.get? (He.frT s.heap.get? (He.asD s.heap.get? n ++ [sysModules, cStatics]))) = true := congrArg (fun z : He.AlD × Bool => z.2) e
  rw [Bool.and_eq_true] at e2
  obtain ⟨e2, e3⟩ := e2
  unfold tabsB at e3
  rw [Bool.and_eq_true] at e3
  refine ⟨Prod.ext e1 e2, of_decide_eq_true e3.2, fun b hb => ?_⟩
  have e4 := List.all_eq_true.mp e3.1 b hb
  cases q : s.heap.get? b with
  | none => rw [q] at e4; cases e4
  | some o =>
    rw [q] at e4
    have e4 : He.emptyTab o = true := e4
    exact ⟨by rw [He.emptyTab_eq e4], He.frT_none q e4⟩
end Mn
namespace Mn
open PySem PySem.Spec PyProof.Rows L2 NdefX
abbrev xT : HO := .ext fun _ => True
structure Lent (S : Addr → Option Obj) (H0 H1 : Hp) : Prop where
  inn : ∀ b o, S b = some o → H0 b = none ∧ H1 b = some (.frz o xT)
  out : ∀ b, S b = none → H1 b = H0 b
def giveH (S : Addr → Option Obj) (H : Hp) : Hp := fun b => match S b with
  | some _ => none
  | none => H b
theorem Lent.give {S : Addr → Option Obj} {H : Hp} (h : ∀ b o, S b = some o → H b = some (.frz o xT)) : Lent S (giveH S H) H :=
  ⟨fun b o e => ⟨by unfold giveH; rw [e], h b o e⟩, fun b e => by unfold giveH; rw [e]⟩
section
variable {S : Addr → Option Obj} {H0 H1 H0' H1' : Hp}
theorem Lent.some0 (L : Lent S H0 H1) {b : Addr} {o : HO} (e : H0 b = some o) : S b = none := by
  cases q : S b with
  | none => rfl
  | some ob => rw [(L.inn b ob q).1] at e; cases e
theorem Lent.up (L : Lent S H0 H1) {b : Addr} {o : HO} (e : H0 b = some o) : H1 b = some o := by rw [L.out b (L.some0 e)]; exact e
theorem Lent.none1 (L : Lent S H0 H1) {b : Addr} (e : H1 b = none) : H0 b = none := by
  cases q : S b with
  | none => rw [← L.out b q]; exact e
  | some ob => exact (L.inn b ob q).1
theorem Lent.down (L : Lent S H0 H1) {b : Addr} {o : HO} (e : H1 b = some o) (n : ∀ ob φ, o ≠ .frz ob (.ext φ)) : H0 b = some o := by
  cases q : S b with
  | none => rw [← L.out b q]; exact e
  | some ob =>
    rw [(L.inn b ob q).2] at e
    exact absurd (Option.some.inj e).symm (n _ _)
end
section
variable {S : Addr → Option Obj} {H0 H1 H0' H1' : Hp} {K : PySem.W.Frag} {hc hc' : CH} {m m' : Ms}
variable {P : Program} {w : World} {h h' : Heap} {fs : List Addr}
theorem Lent.okD (L : Lent S H0 H1) (k : HOk P w H1 h) : HOk P w H0 h := fun b o e =>
  (k b o (L.up e)).stay (fun _ _ _ r => r) (fun _ r => L.down r fun _ _ z => by cases z) fun _ _ r => L.down r fun _ _ z => by cases z
theorem Lent.at1 (L : Lent S H0 H1) (k : HOk P w H1 h) {b : Addr} {o : Obj} (e : S b = some o) : h.get? b = some o := (k b _ (L.inn b o e).2).1
end
section
variable {S : Addr → Option Obj} {H0 H1 H0' H1' : Hp} {P : Program} {w : World} {h B h' : Heap} {fs : List Addr}
theorem Lent.ubD (L : Lent S H0 H1) (L' : Lent S H0' H1') (nf : ∀ b o, S b = some o → b ∉ fs) (a : ∀ b o, S b = some o → h.get? b = some o ∧ B.get? b = some o) (u : UB fs H1 H1' h B h') : UB fs H0 H0' h B h' := by
  refine ⟨fun b o e n hb => ?_, u.slot, fun b o e n => ?_, u.there, fun b xs e => ?_, fun b o x e => ?_, fun b ps e => ?_⟩
  · cases q : S b with
    | none => exact u.keep b o e (by rw [L.out b q]; exact n) hb
    | some ob =>
      obtain ⟨e1, e2⟩ := a b ob q
      rw [e] at e1; cases e1
      exact e2
  · cases q : S b with
    | none => exact L'.none1 (u.free b o e (by rw [L.out b q]; exact n))
    | some ob => exact (L'.inn b ob q).1
  · have z := u.tups b xs (L.up e)
    rw [L'.out b (L.some0 e)] at z
    exact z
  · have z := u.frzs b o x (L.up e)
    rw [L'.out b (L.some0 e)] at z
    exact z
  · obtain ⟨more, z⟩ := u.tbls b ps (L.up e)
    rw [L'.out b (L.some0 e)] at z
    exact ⟨more, z⟩
theorem Lent.cxD (L : Lent S H0 H1) {s s' : Shared} {outer : List Env} {E E' : XK} {u : Value} (nf : ∀ b o, S b = some o → b ∉ frs outer) (a : ∀ b o, S b = some o → s.heap.get? b = some o) (c : L2.CX P w outer H1 s E u s')
    (hE : ∀ cls d H', Lent S (giveH S H') H' → E cls d H' → E' cls d (giveH S H')) : L2.CX P w outer H0 s E' u s' := by
  obtain ⟨e, B, H', cls, d, rfl, fl, hok, ub, na, os, ag, he⟩ := c
  have L' : Lent S (giveH S H') H' := .give fun b ob q => ub.frzs b ob xT (L.inn b ob q).2
  exact ⟨e, B, _, cls, d, rfl, fl, L'.okD hok, L.ubD L' nf (fun b o q => ⟨a b o q, L'.at1 hok q⟩) ub, L'.none1 na, os, ag, hE cls d H' L' he⟩
end
def Fz (H H2 : Hp) : Prop := ∀ b o u, H b = some (.frz o u) → H2 b = some (.frz o u)
abbrev Spf := List D → Spc
def toSpC (K : PySem.W.Frag) (mg : Str → Option Value) (φ : Spf) (f : Addr) (ws : List V) (xs : List D) : Sp := fun vs H Q E => ∃ hc m ds P PE, Wd K H hc m ∧ Rep K H m (.clo f ws xs) (.ref f) ∧ RepL K H m ds vs ∧ φ xs ds hc P PE ∧
  (∀ d hc', P d hc' → ∀ v H' m', Ex K ⟨H, hc, m⟩ H' hc' m' → Rep K H' m' d v → Q v H') ∧
  (∀ x hc', PE x hc' → ∀ cls dx H' m', Ex K ⟨H, hc, m⟩ H' hc' m' → RepXK K mg H' m' x cls dx → E cls dx H')
structure Clo (P : Program) (w : World) (K : PySem.W.Frag) (mg : Str → Option Value) (base : Heap) (k : Nat) (H : Hp) (f : Addr) (ws : List V) (φ : Spf) : Prop where
  run : ∀ (A : Around) (outer : List Env) (s : Shared) (H2 : Hp) (us : List Value) (vs : List V) (xs : List D) (Q : VK) (E : XK), RG k A → Env0 P w K mg base A outer s H2 → Fz H H2 → Vals vs us → toSpC K mg φ f ws xs vs H2 Q E →
    codeAny (model P w) A (.call (.ref f) ⟨us, []⟩) (CR (L2.CX P w) outer P w H2 s Q E) s
  fn : K.lookup f ≠ none → ∃ oc od fd sl, K.lookup f = some ⟨oc, od, .func fd, sl⟩
theorem FnVal.at_ {P : Program} {w : World} {K : PySem.W.Frag} {H : Hp} {f : Addr} {h : Heap} (x : FnVal K H f) (k : HOk P w H h) (KX : K.In h) (fn : K.lookup f ≠ none → ∃ oc od fd sl, K.lookup f = some ⟨oc, od, .func fd, sl⟩) : PySem.W.FnAt f h := by
  rcases x with ⟨o, fd, c, e1, e2, _⟩ | x
  · obtain ⟨oc, od, dt, sl⟩ := o
    have e2 : dt = .func fd := e2
    subst e2
    exact ⟨oc, od, fd, sl, (k f _ e1).1⟩
  · obtain ⟨oc, od, fd, sl, e⟩ := fn x
    exact ⟨oc, od, fd, sl, KX _ _ e⟩
abbrev CloR := Addr → List V → Spf → Prop
section
variable {X : Cx} {W : WX} {e : Expr} {es : List Expr} {c : CAx} {p pos : Pos} {i : Nat} {x : Str}
def cCallV (Γ : CloR) (i : Nat) (c : CAx) : CEx := fun E sc hc P => match look sc i with
  | some (.clo f ws xs) => ∃ φ, Γ f ws φ ∧ c E sc hc fun ds hc1 => φ xs ds hc1 P fun x hc2 => E x sc hc2
  | _ => False
end
def toSpH (P : Program) (w : World) (K : PySem.W.Frag) (mg : Str → Option Value) (base : Heap) (kc : Nat) (Γ : CloR) (sp : Spc) : Sp := fun vs H Q E => (∀ f ws φ, Γ f ws φ → Clo P w K mg base kc H f ws φ) ∧ toSp K mg sp vs H Q E
def FnAtH (P : Program) (w : World) (K : PySem.W.Frag) (mg : Str → Option Value) (base : Heap) (kc k : Nat) (x : Str) (ps : List Str) (sp : CloR → Spc) : Prop :=
  ∃ (f : Addr) (fd : FuncData), (∀ Γ, FnG P w K mg base (L2.CX P w) k f fd ps (toSpH P w K mg base kc Γ (sp Γ))) ∧ mg x = some (.ref f) ∧ PySem.W.keepIn K (.ref f) = true ∧ Binds K fd ps []
theorem FnAtH.mono {P : Program} {w : World} {K : PySem.W.Frag} {mg : Str → Option Value} {base : Heap} {kc j k : Nat} {x : Str} {ps : List Str} {sp : CloR → Spc} (h : FnAtH P w K mg base kc j x ps sp) (l : j ≤ k) : FnAtH P w K mg base kc k x ps sp := by
  obtain ⟨f, fd, a, b⟩ := h
  exact ⟨f, fd, fun Γ => (a Γ).mono l, b⟩
end Mn
namespace Mn
open PySem PySem.Spec PyProof.Rows L2 NdefX
structure LamMade (X : Cx) (params : Arguments) (body : Expr) (scope : Scope) (H H1 : Hp) (f c' : Addr) (o : Obj) : Prop where
  ext : LamX.ExtN H H1
  live : ∀ b, H1 b = none → H b = none
  tab : LamX.Tabs (tabsL X.K) H1
  new : H f = none
  fr : H1 f = some (.frz o (.own f))
  ob : ∃ pm ctv, o = PySem.W.kla_obj "<lambda>" (X.env.qual ++ "<lambda>") params body scope (cloFrom X.env.cells scope.names []) pm c' ctv
  code : H1 c' = some (LamX.CodeO c' (X.env.qual ++ "<lambda>"))
section
variable {X : Cx} {pins : List (Addr × Obj)} {σ : L2.St} {H : Hp} {s : Shared}
theorem LamMade.ex {K : PySem.W.Frag} {params : Arguments} {body : Expr} {scope : Scope} {H1 : Hp} {f c' : Addr} {o : Obj} {hc : CH} {m : Ms} (hK : K = X.K) (L : LamMade X params body scope H H1 f c' o) (w : Wd K H hc m) : Ex K ⟨H, hc, m⟩ H1 hc m := by
  subst hK
  have st : Stp H m H1 m := ⟨fun b u e t _ => L.ext b u e (nt_ne t), fun _ z => .inl z, fun b u e n => by rw [L.live b n] at e; cases e⟩
  have keepL : ∀ {b o}, H b = some o → IsMut o → H1 b = some o := fun e im => L.ext _ _ e fun ps z => by subst z; exact im
  refine ⟨⟨L.tab, fun b z => ?_, w.hm, fun b ds e => ?_⟩, w.mu, w.hm, fun b u e t _ => L.ext b u e (nt_ne t), fun _ z => .inl z, fun _ z _ => z, fun b ds e => .inl (by show hc b ≠ none; rw [e]; simp), fun b u e n => ?_⟩
  · obtain ⟨vs, e, im⟩ := w.mu b z
    exact ⟨vs, keepL e im, im⟩
  · exact (w.heap b ds e).map (fun o e1 im => keepL e1 im) fun es vs q => RepL.mono w.mu st _ _ q
  · have e : H b = some u := e
    rw [L.live b n] at e; cases e
end
end Mn
namespace Mn
open PySem PySem.Spec PyProof.Rows L2 NdefX
def capsOf (sc : List Sl) : List Nat → Option (List D)
  | [] => some []
  | j :: js => match look sc j, capsOf sc js with
    | some d, some ds => some (d :: ds)
    | _, _ => none
def lamS (n : Nat) (cb : CEx) : Spf := fun xs ds hc Q E => ds.length = n ∧ cb (fun x _ hc2 => E x hc2) (ds.map Sl.val ++ xs.map Sl.val) hc Q
theorem Clo.mono {P : Program} {w : World} {K : PySem.W.Frag} {mg : Str → Option Value} {base : Heap} {j k : Nat} {H : Hp} {f : Addr} {ws : List V} {φ : Spf} (c : Clo P w K mg base j H f ws φ) (h : j ≤ k) : Clo P w K mg base k H f ws φ :=
  ⟨fun A outer s H2 us vs xs Q E hr => c.run A outer s H2 us vs xs Q E (hr.mono h), c.fn⟩
section
variable {P : Program} {w : World} {K : PySem.W.Frag} {mg : Str → Option Value} {base : Heap}
end
def cLamC (sp : CloR → Spc) (js : List Nat) (n : Nat) (cb : CEx) (c : CAx) : CEx := fun E sc hc P => ∃ xs, capsOf sc js = some xs ∧ c E sc hc fun ds hc1 => ∀ f ws, sp (fun g us φ => g = f ∧ us = ws ∧ φ = lamS n cb) (.clo f ws xs :: ds) hc1 P fun x hc2 => E x sc hc2
theorem e_LamC {sp : CloR → Spc} {js : List Nat} {n : Nat} {cb : CEx} {c : CAx} {E : XP} {sc : List Sl} {hc : CH} {P : D → CH → Prop} : cLamC sp js n cb c E sc hc P = ∃ xs, capsOf sc js = some xs ∧ c E sc hc fun ds hc1 => ∀ f ws, sp (fun g us φ => g = f ∧ us = ws ∧ φ = lamS n cb) (.clo f ws xs :: ds) hc1 P fun x hc2 => E x sc hc2 := rfl
end Mn
namespace Mn
open PySem PySem.Spec PyProof.Rows L2 NdefX
section
variable {X : Cx} {W : WX} {e : Expr} {es : List Expr} {kws : List Keyword} {c ck : CAx} {ce : CEx} {p pos : Pos}
def cCallD (sp : Spc) (dds : List D) (c : CAx) : CEx := fun E sc hc P => c E sc hc fun ds hc1 => sp (ds ++ dds) hc1 P fun x hc2 => E x sc hc2
def cCallK (sp : Spc) (n m : Nat) (c ck : CAx) : CEx := fun E sc hc P => c E sc hc fun ds hc1 => ck E sc hc1 fun zs hc2 => ds.length = n ∧ zs.length = m ∧ sp (ds ++ zs) hc2 P fun x hc3 => E x sc hc3
end
theorem e_CallD {sp : Spc} {dds : List D} {c : CAx} {E : XP} {sc : List Sl} {hc : CH} {P : D → CH → Prop} : cCallD sp dds c E sc hc P = c E sc hc fun ds hc1 => sp (ds ++ dds) hc1 P fun x hc2 => E x sc hc2 := rfl
theorem e_CallK {sp : Spc} {n m : Nat} {c ck : CAx} {E : XP} {sc : List Sl} {hc : CH} {P : D → CH → Prop} : cCallK sp n m c ck E sc hc P = c E sc hc fun ds hc1 => ck E sc hc1 fun zs hc2 => ds.length = n ∧ zs.length = m ∧ sp (ds ++ zs) hc2 P fun x hc3 => E x sc hc3 := rfl
theorem e_CallV {Γ : CloR} {i : Nat} {c : CAx} {E : XP} {sc : List Sl} {hc : CH} {P : D → CH → Prop} : cCallV Γ i c E sc hc P = (match look sc i with
  | some (.clo f ws xs) => ∃ φ, Γ f ws φ ∧ c E sc hc fun ds hc1 => φ xs ds hc1 P fun x hc2 => E x sc hc2
  | _ => False) := rfl
def lamN (K : PySem.W.Frag) (x : Str) : Bool := PySem.W.codeHdIn K (He.codeOf K (x, none)) (He.tabOf K (He.codeOf K (x, none)))
def obsLG (n : Nat) (fa : List He.Fa) (fn : List He.DefD) (tc : TupC) (lm : List Str) (g : Addr → Option Obj) : (He.AlD × Bool) × Bool := (obsTG n fa fn tc g, lm.all (lamN (He.frT g (He.asD g n ++ [sysModules, cStatics]))))
end Mn
set_option maxHeartbeats 2000000
namespace Mn
open PySem PySem.Spec PyProof.Rows L2 NdefX
structure Sup (P : Program) (file : Str) : Prop where
  f : (P.main.file == file) = true
  s : (P.main.scope.names.lookup ("super" : Str)).isSome = false
def IniBody (px f : Str) (body : List Stmt) : Prop := ∃ p0 p1 p2 p3 p4 p5 p6 p7 p8 p9, ((p2 : Pos).endLine == (p4 : Pos).line) = true ∧ body = [.Expr (.Call (.Attribute (.Call (.Name "super" p0) [] [] p1) "__init__" p2) [.Name px p3] [] p4) p5, .Assign [.Attribute (.Name "self" p6) f p7] (.Name px p8) p9]
structure OwnX (K : PySem.W.Frag) (C : Addr) (B newId initId : String) (bmB : List Value) (px f file : Str) : Prop where
  FB : PySem.ExcBaseFacts B newId initId bmB
  SF : PySem.StoreFacts B bmB "object.__setattr__" "object"
  KF : PySem.W.KxsFacts B initId
  q : PySem.W.excInitIn K C bmB newId = true
  ov : PySem.W.excOver K C bmB = true
  hd : PySem.W.hasDictIn K C = true
  sa : PySem.W.findIn K (.ref C) "__setattr__" = some (some (.builtin "object.__setattr__"))
  no : PySem.W.findIn K (.ref C) f = some none
  sup : PySem.W.ks_superIn K C C "__init__" = some (some (.builtin initId))
  sB : PySem.W.subIn K (.ref C) (.type B) = some true
  sC : PySem.W.mroIn K C (.ref C) = some true
  exC : PySem.W.subIn K (.ref C) (.type "BaseException") = some true
  tyC : PySem.W.typeIn K (.ref C) = some (.type "type")
  kC : PySem.W.keepIn K (.ref C) = true
  opq : PySem.W.nsIn K cStatics "thirdparty.any" = some none
  fn : ∃ (fI cc cda : Addr) (q : Str) (params : Arguments) (body : List Stmt) (scope : Scope) (dV kV doc pm ct oc ccl cl : Value) (an od cdd cld : Option Addr) (osl ccs csl : Array (Option Value)) (vs : Array Value) (tf : Tok) (ar : Arg),
    PySem.W.findIn K (.ref C) "__init__" = some (some (.ref fI)) ∧ PySem.W.typeIn K (.ref fI) = some (.type "function") ∧ K.lookup fI = some ⟨oc, od, .func (PySem.W.ksFn "__init__" q params body scope dV kV doc pm an (.ref cda) ct cc), osl⟩ ∧
    PySem.W.codeIn K (.ref cda) q = true ∧ K.lookup cda = some ⟨ccl, cdd, .fields vs, ccs⟩ ∧ vs[2]? = some (.str file tf) ∧ K.lookup cc = some ⟨cl, cld, .cell (some (.ref C)), csl⟩ ∧ IniBody px f body ∧
    (∀ a u : Value, bindArgs (PySem.W.ksFn "__init__" q params body scope dV kV doc pm an (.ref cda) ct cc) ⟨[a, u], []⟩ = pure [(("self" : Str), a), (px, u)]) ∧
    (params.posonlyargs ++ params.args).head? = some ar ∧ ar.arg = "self" ∧ (px == ("__debug__" : Str)) = false ∧ px ≠ "self" ∧
    scope.names.lookup ("super" : Str) = some .globalImplicit ∧ scope.names.lookup ("__class__" : Str) = some .free ∧ scope.names.lookup ("self" : Str) = some .local ∧ scope.names.lookup px = some .local ∧
    scope.kind = .function ∧ scope.isCoroutine = false ∧ scope.isGenerator = false ∧ ∀ x ∈ scope.names, x.2 ≠ .cell
section
variable {prog : Program} {w : World} {A : Around} {K : PySem.W.Frag} {C : Addr} {B newId initId : String} {bmB : List Value} {px f file : Str} {mg mb : Str → Option Value} {s : Shared} {u : Value} {R : Result → Shared → Prop}
open Builtin Builtin.ObjectAttr in
theorem own_osa {prog : Program} {w : World} {A : Around} {hp : Heap} {g : Array GenState} {d : Drawn} {t : Nat} {os : OsState} {name : Str} {tk : Tok} {v : Value} {x t1 : Addr} {R : Result → Shared → Prop} (SF : PySem.StoreFacts B bmB "object.__setattr__" "object") (X : K.In hp)
    (hx : hp.get? x = some ({ cls := .ref C, data := .fields #[.ref t1, .none, .none, .none, .bool false, .none] } : Obj)) (ov : PySem.W.excOver K C bmB = true) (hd : PySem.W.hasDictIn K C = true) (no : PySem.W.findIn K (.ref C) name = some none)
    (hq : ∀ h' tk' dx, (∀ b o, b ≠ x → hp.get? b = some o → h'.get? b = some o) → hp.objs.size ≤ dx → dx ≠ x → h'.get? x = some ({ cls := .ref C, dict := some dx, data := .fields #[.ref t1, .none, .none, .none, .bool false, .none] } : Obj) →
      h'.Ns1 dx (fun y => if y = name then some v else none) → R (.ok (.ret .none)) ⟨h', g, d, tk', os⟩) :
    codeAny (model prog w) A (.call (.builtin "object.__setattr__") ⟨[.ref x, .str name tk, v], []⟩) R ⟨hp, g, d, t, os⟩ := by
  refine PySem.W.osa_openX (od := none) SF X ⟨hx, rfl, rfl, trivial⟩ ov (r := none) (by unfold PySem.W.takerIn; rw [no]; rfl) fun b => ?_
  obtain ⟨cd, hc, hd'⟩ := PySem.W.any_some hd
  have hxs : x ≠ hp.objs.size := Nat.ne_of_lt (Heap.lt_size hx)
  refine wpAny_bind (wpAny_pure (wpAny_bind (PySem.W.instanceDict_exc hx (PySem.W.looks_clsIn X hc) hd' ?_)))
  show wpAny _ _ (storeInDict hp.objs.size (.str name tk) name v) _ _ _
  refine PySem.HandSPX.store_in_new ?_ (fun h' tk' hn' hs => ?_)
  · exact ⟨_, #[], _, (Heap.get?_update_ne _ _ _ _ hxs.symm).trans (Heap.get?_push_at rfl rfl), rfl, fun e he => absurd he (by simp), fun _ => rfl⟩
  · refine hq h' tk' hp.objs.size (fun b o hb ho => ?_) (Nat.le_refl _) hxs.symm ?_ hn'
    · exact (hs.2 b (Nat.ne_of_lt (Heap.lt_size ho))).trans ((Heap.get?_update_ne _ _ _ _ hb).trans (Heap.get?_push_of_some _ ho))
    · exact (hs.2 x hxs).trans (Heap.get?_update_self _ (Heap.get?_push_of_some _ hx) rfl)
theorem own_call (T : OwnX K C B newId initId bmB px f file) (S : Sup prog file) (X : K.In s.heap) (G : s.heap.Ns mainGlobals mg) (ng : mg "super" = none) (Bn : s.heap.Ns builtinsNs mb) (hb : mb "super" = bootBuiltins "super") (lim : s.heap.NoLimit) (room : Room 1 A)
    (hq : ∀ h' e dx t1 tk, (∀ b o, s.heap.get? b = some o → h'.get? b = some o) → s.heap.objs.size ≤ e → s.heap.objs.size ≤ dx → dx ≠ e → h'.get? e = some ({ cls := .ref C, dict := some dx, data := .fields #[.ref t1, .none, .none, .none, .bool false, .none] } : Obj) →
      h'.Ns1 dx (fun y => if y = f then some u else none) → R (.ok (.ret (.ref e))) { s with heap := h', toks := tk }) :
    codeAny (model prog w) A (.call (.ref C) ⟨[u], []⟩) R s := by
  obtain ⟨nm, N, qn, bs, bm, hdct, sn, sub, ab, col, dd, k0, k1, k2, k3, k5, hC, hT⟩ := PySem.W.excInit_of X T.q
  obtain ⟨fI, cc, cda, q, params, body, scope, dV, kV, doc, pm, ct, oc, ccl, cl, an, od, cdd, cld, osl, ccs, csl, vs, tf, ar, e1, e2, e3, e4, e5, e6, e7, e8, e9, e10, e11, e12, e13, e14, e15, e16, e17, e18, e19, e20, e21⟩ := T.fn
  obtain ⟨p0, p1, p2, p3, p4, p5, p6, p7, p8, p9, el, rfl⟩ := e8
  obtain ⟨skd, snm, sgn, sco, smr⟩ := scope
  have e18 : skd = .function := e18
  subst e18
  obtain ⟨hp, g, d, t, os⟩ := s
  refine PySem.HandSPX.call_own T.FB hT hC (PySem.W.looks_findIn X e1) (fun self => PySem.W.bind_fn X self e2) (by rw [sizeLine_eq]; simp) ?_
  have kk : ∀ b o, hp.get? b = some o → ((hp.push (PySem.W.kdv_tup [u])).push (PySem.HandSPX.excO C hp.objs.size)).get? b = some o := fun b o e => Heap.get?_push_of_some _ (Heap.get?_push_of_some _ e)
  have he : ((hp.push (PySem.W.kdv_tup [u])).push (PySem.HandSPX.excO C hp.objs.size)).get? (hp.objs.size + 1) = some (PySem.HandSPX.excO C hp.objs.size) := by heap_get
  have sz : ((hp.push (PySem.W.kdv_tup [u])).push (PySem.HandSPX.excO C hp.objs.size)).objs.size = hp.objs.size + 2 := by simp [Heap.push]
  revert kk he sz
  generalize ((hp.push (PySem.W.kdv_tup [u])).push (PySem.HandSPX.excO C hp.objs.size)) = h0
  intro kk he sz
  have X0 : K.In h0 := X.keeps kk
  refine PySem.ks_codeAny_call_defAt (fd := PySem.W.ksFn "__init__" q params _ ⟨.function, snm, sgn, sco, smr⟩ dV kV doc pm an (.ref cda) ct cc) (binds := [(("self" : Str), .ref (hp.objs.size + 1)), (px, u)]) (room.make C [u] []).depth (X0 _ _ e3) rfl (lim.keeps kk) (PySem.W.codeRec_of X0 e4) rfl (BindsTo.of_eq (e9 _ _)) e21 (fun y hy => ?_) (fun h1 hns k1 => ?_) e19 e20 e18
  · rcases List.mem_cons.mp hy with rfl | hy
    · exact e16
    · rcases List.mem_cons.mp hy with rfl | hy
      · exact e17
      · cases hy
  have X1 : K.In h1 := X0.keeps k1
  have he1 := k1 _ _ he
  have hself : (fun x : Str => [(("self" : Str), Value.ref (hp.objs.size + 1)), (px, u)].reverse.lookup x) "self" = some (.ref (hp.objs.size + 1)) := by
    have z : (("self" : Str) == px) = false := by simpa using Ne.symm e13
    show List.lookup ("self" : Str) [(px, u), (("self" : Str), Value.ref (hp.objs.size + 1))] = _
    rw [List.lookup_cons, z, List.lookup_cons, beq_self_eq_true]
  have hpx : (fun x : Str => [(("self" : Str), Value.ref (hp.objs.size + 1)), (px, u)].reverse.lookup x) px = some u := by
    show List.lookup px [(px, u), (("self" : Str), Value.ref (hp.objs.size + 1))] = _
    rw [List.lookup_cons, beq_self_eq_true]
  generalize hen : callEnv (PySem.W.ksFn "__init__" q params [.Expr (.Call (.Attribute (.Call (.Name "super" p0) [] [] p1) "__init__" p2) [.Name px p3] [] p4) p5, .Assign [.Attribute (.Name "self" p6) f p7] (.Name px p8) p9] ⟨.function, snm, sgn, sco, smr⟩ dV kV doc pm an (.ref cda) ct cc) h0.objs.size fI = env
  have k_super : env.kindOf "super" = some .globalImplicit := by rw [← hen]; exact e14
  have k_class : env.kindOf "__class__" = some .free := by rw [← hen]; exact e15
  have k_self : env.kindOf "self" = some .local := by rw [← hen]; exact e16
  have k_px : env.kindOf px = some .local := by rw [← hen]; exact e17
  have k_fn : env.scope.kind = .function := by rw [← hen]; rfl
  have l_ns : h1.Ns env.locals fun x : Str => [(("self" : Str), Value.ref (hp.objs.size + 1)), (px, u)].reverse.lookup x := by rw [← hen]; exact hns
  have nsw : ∀ (x : Str) (p : Pos) (t : Option Expr) (l : Nat), swapsWith (.Name x p) t l env = pure false := fun _ _ _ _ => rfl
  have kk1 : ∀ b o, hp.get? b = some o → h1.get? b = some o := fun b o e => k1 _ _ (kk b o e)
  refine PySem.ks_wpAt_execs_cons (PySem.ks_wpAt_Expr_any (PySem.ks_wpAt_MethodCall (pl := do return (← importBound (.Call (.Name "super" p0) [] [] p1) env).getD true) ?_ ?_) ?_ ?_)
  · refine PySem.ks_wpAt_super_base (env := env) k_super k_class rfl (by rw [← hen]; rfl) (X1 _ _ e3) rfl e10 (by rw [← hen]; rfl) (X1 _ _ e5) rfl e6 S.f S.s ?_
    refine PySem.W.ks_loadName_global k_fn k_super (Calls.loadGlobal_builtin (env := env) (mg := mg) (mb := mb) (by rw [← hen]; exact G.keeps kk1) ng (by rw [← hen]; exact Bn.keeps kk1) (hb.trans (by decide +kernel)) ⟨rfl, ?_⟩)
    refine wpAny_loadName_free k_fn k_class (c := cc) (v := .ref C) (by rw [← hen]; rfl) ⟨_, X1 _ _ e7, rfl⟩ ?_
    rw [e11]
    refine wpAny_loadName_local k_fn k_self l_ns hself ?_
    refine PySem.ks_wpAny_isType_cls (kk1 _ _ hC) rfl ⟨rfl, ?_⟩
    refine PySem.ks_wpAny_call_super (kk1 _ _ hC) rfl he1 rfl (fun c e => by cases e) (PySem.W.looks_mroIn X1 T.sC) (fun h2 e_so k2 => ?_)
    have X2 : K.In h2 := X1.keeps k2
    have hm := T.sup
    cases hc : PySem.W.clsIn K C with
    | none =>
      unfold PySem.W.ks_superIn at hm
      rw [hc] at hm
      cases hm
    | some cd =>
      unfold PySem.W.ks_superIn at hm
      rw [hc] at hm
      have I2 : PySem.W.InstAt h2 (hp.objs.size + 1) (PySem.HandSPX.excO C hp.objs.size) C none := ⟨k2 _ _ he1, rfl, rfl, trivial⟩
      refine PySem.W.kxs_getMethod T.KF e_so (PySem.W.looks_opaque X2 T.opq) (l₀ := cd.mro) (fun A Q E s k q => wpAny_bind ((PySem.W.looks_clsIn X2 hc) A _ E s k (wpAny_pure q))) rfl X2 hm (I2.type.andThen (PySem.W.looks_subIn X2 T.sB)) (PySem.W.ks_ne X2 I2 hc) rfl ?_
      have km : ∀ b o, h2.get? b = some o → (h2.push (PySem.W.kxs_mw initId (hp.objs.size + 1))).get? b = some o := fun b o e => Heap.get?_push_of_some _ e
      have hmw : (h2.push (PySem.W.kxs_mw initId (hp.objs.size + 1))).get? h2.objs.size = some (PySem.W.kxs_mw initId (hp.objs.size + 1)) := Heap.get?_push_at rfl rfl
      have he3 := km _ _ (k2 _ _ he1)
      have k13 : ∀ b o, h1.get? b = some o → (h2.push (PySem.W.kxs_mw initId (hp.objs.size + 1))).get? b = some o := fun b o e => km _ _ (k2 _ _ e)
      revert km hmw he3 k13
      generalize h2.push (PySem.W.kxs_mw initId (hp.objs.size + 1)) = h3
      intro km hmw he3 k13
      refine PySem.W.kxs_callWith (i := initId) (x := hp.objs.size + 1) (by rfl) ?_
      show wpAny _ _ (evalArgs (.ref h2.objs.size) true ((false, eval (.Name px p3) env) :: backTo p4 (starEach [] env)) []) _ _ _
      refine Calls.evalArgs_plain ?_
      refine Calls.spliced_cons (PySem.ESX.ldL (l_ns.keeps k13) hpx (Calls.spliced_nil ⟨hmw, ?_⟩) k_fn k_px e12)
      have hC3 := k13 _ _ (kk1 _ _ hC)
      refine wpAny_call (codeAny_of_tree ?_)
      show wpAny _ _ (callAny (.ref h2.objs.size) ⟨[u], []⟩) _ _ _
      simp only [callAny]
      refine wpAny_bind (wpAny_load hmw ?_)
      simp only [PySem.W.kxs_mw, show (Value.type "method-wrapper" == Value.type "method" || Value.type "method-wrapper" == Value.type "builtin_function_or_method" || Value.type "method-wrapper" == Value.type "method-wrapper") = true by decide, if_true]
      refine PySem.W.KFB.if_so (by decide) ?_
      refine wpAny_bind (PySem.W.check_bound_init T.FB.toExcCallFacts hC3 he3 rfl ?_)
      refine wpAny_bind (wpAny_pure (wpAny_pure ?_))
      refine ⟨PySem.plainId_quiet T.FB.init.plain _, codeAny_builtin T.FB.initEntry ?_⟩
      refine PySem.W.exc_init_tree (cls := .ref C) (t0 := hp.objs.size) (dv := none) (c2 := .none) (c3 := .none) (b4 := .bool false) he3 (by rw [sizeLine_eq]; simp) (fun h4 k4 he4 _ => ?_)
      have far : ∀ {b : Addr} {o : Obj}, hp.get? b = some o → b ≠ hp.objs.size + 1 := fun e => Nat.ne_of_lt (Nat.lt_succ_of_lt (Heap.lt_size e))
      have kk4 : ∀ b o, hp.get? b = some o → h4.get? b = some o := fun b o e => k4 _ _ (far e) (k13 _ _ (kk1 _ _ e))
      have X4 : K.In h4 := X.keeps kk4
      have nL : env.locals ≠ hp.objs.size + 1 := by
        have z : env.locals = h0.objs.size := by rw [← hen]; rfl
        rw [z, sz]
        exact Nat.succ_ne_self _
      have l4 : h4.Ns env.locals fun x : Str => [(("self" : Str), Value.ref (hp.objs.size + 1)), (px, u)].reverse.lookup x := by
        obtain ⟨oL, es, ep, a1, a2⟩ := l_ns.keeps k13
        exact ⟨oL, es, ep, k4 _ _ nL a1, a2⟩
      refine PySem.ks_wpAt_execs_cons (PySem.ks_wpAt_Assign_Attr (PySem.wpAt_of_wpAny (PySem.ESX.ldL l4 hpx (PySem.ESX.ldL l4 hself ?_ k_fn k_self rfl) k_fn k_px e12)) rfl)
      refine PySem.W.set_plain X4 (od := none) ⟨he4, rfl, rfl, trivial⟩ T.sa (own_osa T.SF X4 he4 T.ov T.hd T.no (fun h5 tk dx k5 d5 ne5 he5 n5 => ?_))
      refine PySem.wpAt_of_wpAny (wpAny_execs_nil ⟨rfl, ?_⟩)
      exact hq h5 (hp.objs.size + 1) dx _ tk (fun b o e => k5 _ _ (far e) (kk4 _ _ e)) (Nat.le_succ _) (Nat.le_trans (Nat.le_of_lt (Nat.lt_of_succ_lt (Heap.lt_size he4))) d5) ne5 he5 n5
  · show (do
      let ov ← attributeBase (.Call (.Name "super" p0) [] [] p1) "__init__" env (eval (.Call (.Name "super" p0) [] [] p1) env)
      standAt p2.atName
      methodCall (.Call (.Name "super" p0) [] [] p1) "__init__" p2 p4 env ov 1 (backTo p4 (starEach [.Name px p3] env)) (backToKw p4 (keywordEach [] env))) = _
    unfold methodCall calleeOf methodCallPos
    rw [show methodCallForm 1 (backTo p4 (starEach [.Name px p3] env)) (backToKw p4 (keywordEach [] env)) = true from rfl, show (!true || p2.endLine == p4.line) = true from el]
    simp only [if_true, pure_bind, bind_assoc]
    rfl
  · unfold interactive
    rw [k_fn]
    rfl
  · rfl
end
end Mn
set_option maxHeartbeats 2000000
namespace Mn
open PySem PySem.Spec PyProof.Rows L2 NdefX
section
variable {X : Cx} {W : WX} {x px f file : Str} {C : Addr} {B newId initId : String} {bmB : List Value} {e : Expr} {p pos pos' : Pos}
theorem pmk_own {ta : L2.TA} (T : OwnX X.K C B newId initId bmB px f file) (S : Sup X.prog file) (k : RG 1 X.A) (hm : X.mg x = some (.ref C)) (ns : X.mg "super" = none) (ha : PA X [e] ta) (hg : Gl X x := by rfl) (hdb : (x == ("__debug__" : Str)) = false := by decide)
    (he : starEach [e] X.env = (false, eval e X.env) :: starEach [] X.env := by rfl) (hpl : (backTo pos (starEach [] X.env)).any (·.1) = false := by rfl) :
    PMk X (.Call (.Name x p) [e] [] pos) (fun σ H Q => ta σ H fun vs H1 => ∃ y, vs = [y] ∧ ∀ dx, H1 dx = none → Q (.ref C) (some dx) (upd H1 dx (.xd [(f, y)]))) := by
  intro pins s σ H Q I h
  refine wpAny_Call_Name_kw (ld_glob I hg hm ?_ hdb)
  refine PySem.W.callWith_K (h₀ := X.base) I.ok.mod.kin T.kC (thn (ha.run pos pins s σ H _ I h) fun us s1 ⟨vs, H1, I1, r1, y, ey, q1⟩ => ⟨I1.kIn, ?_⟩) he hpl
  subst ey
  obtain ⟨u, rfl, ry⟩ : ∃ u, us = [u] ∧ RelV y u := by
    cases r1 with
    | cons ry rr =>
      cases rr
      exact ⟨_, rfl, ry⟩
  show wpAny _ _ (call (.ref C) [u]) _ _ _
  obtain ⟨mb, hb1, hb2⟩ := I1.mod.blt
  refine wpAny_call (own_call T S I1.kIn (I1.mod.glob.keeps I1.bk) ns (hb1.keeps I1.bk) (hb2 _ (by decide)) (I1.mod.nolimit.keeps I1.bk) k.r (fun h' a dx t1 tk kp ha hd ne ea nd => ?_))
  obtain ⟨G, g1, g2⟩ := restrict h' fun b => decide (b ≠ a)
  have gk : ∀ b o, b ≠ a → h'.get? b = some o → G.get? b = some o := fun b o hb e => by
    rw [g1 b (by simpa using hb)]
    exact e
  have J : Inv X pins σ (upd H1 dx (.xd [(f, y)])) { s1 with heap := G, toks := tk } := I1.laid (fun b o e => gk b o (Nat.ne_of_lt (Nat.lt_of_lt_of_le (Heap.lt_size e) ha)) (kp b o e)) hd ⟨_, nd.at (fun o e => gk _ _ ne e), relO_put (fs := []) ry fun g => True.intro⟩
  refine ⟨a, _, _, _, _, .ref C, some dx, rfl, J, fun b o e => ?_, g2 a (by simp), ea, ⟨rfl, rfl⟩, rfl, rfl, ?_, rfl, I1.bare, raises_own T.exC T.tyC, q1 dx (I1.hok.fresh hd)⟩
  · by_cases hb : b = a
    · have e' : G.get? b = some o := e
      rw [hb, g2 a (by simp)] at e'
      cases e'
    · have e' : G.get? b = some o := e
      rw [g1 b (by simpa using hb)] at e'
      exact e'
  · rw [upd_ne (Ne.symm ne)]
    exact I1.hok.fresh ha
def cRaise (x f : Str) (ce : CEx) : CSx := fun C sc hc => ce C.xp sc hc fun d hc1 => C.xp ⟨x, [(f, d)]⟩ sc hc1
theorem cs_raise {l : Nat} {ce : CEx} (hr : RT l X W) (T : OwnX X.K C B newId initId bmB px f file) (S : Sup X.prog file) (hm : X.mg x = some (.ref C)) (ns : X.mg "super" = none) (h : CE X W e ce) (hl : 1 ≤ l := by decide) (hc : X.calm = true := by rfl) (hg : Gl X x := by rfl) (hdb : (x == ("__debug__" : Str)) = false := by decide)
    (he : starEach [e] X.env = (false, eval e X.env) :: starEach [] X.env := by rfl) (hpl : (backTo pos (starEach [] X.env)).any (·.1) = false := by rfl) : CS X W (.Raise (some (.Call (.Name x p) [e] [] pos)) none pos') (cRaise x f ce) :=
  ⟨ps_wk (ps_raise hc hr.t (pmk_own T S (hr.g.mono hl) hm ns (pa_cons h.p pa_nil he) hg hdb he hpl)) fun D σ H ⟨en, sc, hc, m, C', r, k, ff⟩ =>
    ⟨en, sc, hc, m, C'.xp, _, r, k, ff.xp, fun d hc1 px1 v H1 m1 x1 q1 => ⟨v, rfl, fun dx n => ff.xp _ sc hc1 px1 (.ref C) (some dx) σ _ m1 ((r.call x1).same (same_upd n)) ⟨hm, .inr ⟨dx, [(f, v)], rfl, upd_same, rfl, RepL.one (Rep.mono x1.mu (.same (same_upd n)) _ _ q1)⟩⟩⟩⟩⟩
end
def noOwn : List Sl → Bool
  | [] => true
  | .own _ :: _ => false
  | _ :: r => noOwn r
theorem noOwn_get : ∀ {sc : List Sl}, noOwn sc = true → ∀ (i : Nat) (ds : List D), sc[i]? ≠ some (Sl.own ds)
  | [], _, i, ds => by simp
  | .own _ :: _, h, _, _ => by cases h
  | .un :: r, h, 0, ds => by simp
  | .val _ :: r, h, 0, ds => by simp
  | .un :: r, h, i + 1, ds => by simpa using noOwn_get (sc := r) h i ds
  | .val _ :: r, h, i + 1, ds => by simpa using noOwn_get (sc := r) h i ds
section
variable {K : PySem.W.Frag} {en : En} {σ σ' : L2.St} {H H' : Hp} {sc sc' : List Sl} {hc hc' : CH} {m m' : Ms}
theorem Rs.here (r : Rs K en σ H sc hc m) (n : noOwn sc = true) : Rs K ⟨H, hc, m⟩ σ H sc hc m :=
  ⟨.refl r.toWd, r.slot, fun i ds e => absurd e (noOwn_get n i ds), fun i j ds es p e => absurd e (noOwn_get n i ds), r.len⟩
theorem Rs.reb (x : Ex K en H hc m) (r : Rs K ⟨H, hc, m⟩ σ' H' sc' hc' m') : Rs K en σ' H' sc' hc' m' := by
  refine ⟨x.trans r.toEx, r.slot, fun i ds e => ?_, r.sep, r.len⟩
  obtain ⟨p, vs, a1, a2, a3, a4⟩ := r.own i ds e
  refine ⟨p, vs, a1, a2, ?_, a4⟩
  cases z : en.H p with
  | none => rfl
  | some o => exact absurd a3 (x.live p o z)
theorem Rs.unset (r : Rs K en σ H sc hc m) (i : Nat) : Rs K en (σ.set i none) H (sc.set i .un) hc m := by
  have at_ : ∀ {j : Nat} {x : Sl}, (sc.set i .un)[j]? = some x → x ≠ .un → j ≠ i ∧ sc[j]? = some x := fun {j x} e nx => by
    by_cases h : j = i
    · subst h
      rw [List.getElem?_set] at e
      split at e
      · split at e
        · exact absurd (Option.some.inj e).symm nx
        · cases e
      · exact absurd rfl ‹_›
    · rw [List.getElem?_set_ne (Ne.symm h)] at e
      exact ⟨h, e⟩
  refine ⟨r.toEx, fun j d e => ?_, fun j ds e => ?_, fun j k ds es p e1 e2 e3 e4 => ?_, by rw [List.length_set, List.length_set]; exact r.len⟩
  · obtain ⟨h, e⟩ := at_ e (by simp)
    rw [List.getElem?_set_ne (Ne.symm h)]
    exact r.slot j d e
  · obtain ⟨h, e⟩ := at_ e (by simp)
    rw [List.getElem?_set_ne (Ne.symm h)]
    exact r.own j ds e
  · obtain ⟨h1, e1⟩ := at_ e1 (by simp)
    obtain ⟨h2, e2⟩ := at_ e2 (by simp)
    rw [List.getElem?_set_ne (Ne.symm h1)] at e3
    rw [List.getElem?_set_ne (Ne.symm h2)] at e4
    exact r.sep j k ds es p e1 e2 e3 e4
end
def unS (i : Nat) (C : CEnds) : CEnds := { nx := fun sc hc => C.nx (sc.set i .un) hc, rt := C.rt, bk := fun sc hc => C.bk (sc.set i .un) hc, ct := fun sc hc => C.ct (sc.set i .un) hc }
def cTryAs (ct : List (Str × Bool)) (cb : CSx) (i : Nat) (cs : Addr → Str → Option Addr → CSx) : CSx := fun C sc hc => noOwn sc = true ∧ cb { C with xp := fun x sc1 hc1 => match ct.lookup x.cls with
  | some true => ∀ a dx, cs a x.cls dx (unS i C) (sc1.set i (.val (.exn a dx (x.fs.map (·.1)) (x.fs.map (·.2))))) hc1
  | some false => C.xp x sc1 hc1
  | none => False } sc hc
theorem RT.tr {X : Cx} {W W' : WX} {l : Nat} {pn : List (Addr × Obj)} {xe : Value → Shared → Prop} (r : RT l X W) (t : Takes (X.tr pn xe) W') (p : PassesOwn (model X.prog X.w) X.A X.env xe) : RT l (X.tr pn xe) W' := ⟨r.g, t, p⟩
section
variable {X : Cx} {W : WX} {body suite : List Stmt} {b₀ : Stmt} {z n : Str} {c : Value} {i l : Nat} {cb : CSx} {cs : Addr → Str → Option Addr → CSx} {ct : List (Str × Bool)} {np pos pos' : Pos}
theorem cs_try_as (hr : RT l X W) (hN : X.N.Nodup) (hc : Names X z c) (tb : ∀ y b, ct.lookup y = some b → ∀ cls, X.mg y = some cls → PySem.W.exmOne X.K cls c = some b)
    (hb : ∀ (W' : WX) (pn : List (Addr × Obj)) (xe : Value → Shared → Prop), RT l (X.tr pn xe) W' → CSs (X.tr pn xe) W' body cb)
    (hsu : ∀ (a : Addr) (oe : Obj) (y : Str) (cls : Value) (d : Option Addr) (pn : List (Addr × Obj)), X.mg y = some cls → Zc cls d oe → (∃ vs, oe.data = .fields vs) → CSs (X.suite a ((a, oe) :: pn)) W0 (b₀ :: suite) (cs a y d))
    (hi : X.N[i]? = some n := by rfl) (hln : X.env.kindOf n = some .local := by rfl) (hs : X.stack = X.env :: X.outer := by rfl) (hf : X.env.frame = some X.env.locals := by rfl) :
    CS X W (.Try body [.ExceptHandler (some (.Name z np)) (some n) (b₀ :: suite) pos'] [] [] pos) (cTryAs ct cb i cs) :=
  ⟨ps_wk (ps_try_as (tb := fun W' => LS X W' cb) (ts := fun a cls d D σ H => ∃ y, X.mg y = some cls ∧ LS X W0 (cs a y d) D σ H) hs hf hN hi hln hc hr.t (fun W' pn xe t p => pss_wk (hb W' pn xe (hr.tr t p)).p fun D σ H ⟨en, sc, hc, m, C, r, k, f⟩ => ⟨en, sc, hc, m, C, r, k, ⟨f.nx, f.bk, f.ct, f.rt, f.xp⟩⟩)
    (fun a oe cls d pn hz hv => ⟨fun pins s σ H D I ⟨y, hy, en, sc, hc, m, C, r, k, f⟩ => (hsu a oe y cls d pn hy hz hv).p.run pins s σ H D I ⟨en, sc, hc, m, C, r, k, ⟨f.nx, f.bk, f.ct, f.rt, f.xp⟩⟩⟩)) fun D σ H ⟨en, sc, hc0, m, C, r, ⟨no, k⟩, f⟩ => by
    refine ⟨⟨H, hc0, m⟩, sc, hc0, m, _, r.here no, k, ⟨fun sc' hc' q σ' H' m' r' s' => f.nx sc' hc' q σ' H' m' (r'.reb r.toEx) s', fun sc' hc' q σ' H' m' r' s' => f.bk sc' hc' q σ' H' m' (r'.reb r.toEx) s', fun sc' hc' q σ' H' m' r' s' => f.ct sc' hc' q σ' H' m' (r'.reb r.toEx) s', fun d hc' q v H' m' x' r' => f.rt d hc' q v H' m' (r.toEx.trans x') r', fun x sc1 hc1 px cls d σ1 H1 m1 r1 rx => ?_⟩⟩
    have st : Stp H m H1 m1 := r1.toEx.stp
    have r2 := r1.reb r.toEx
    have px : (match ct.lookup x.cls with
      | some true => ∀ a dx, cs a x.cls dx (unS i C) (sc1.set i (.val (.exn a dx (x.fs.map (·.1)) (x.fs.map (·.2))))) hc1
      | some false => C.xp x sc1 hc1
      | none => False) := px
    split at px
    · rename_i e
      refine ⟨true, tb _ _ e _ rx.1, fun _ a na => ⟨x.cls, rx.1, en, _, hc1, m1, unS i C, r2.put i (d := .exn a d (x.fs.map (·.1)) (x.fs.map (·.2))) (v := .ref a) ?_, px a d, ⟨fun sc' hc' q σ' H' m' r' s' => f.nx _ hc' q _ H' m' (r'.unset i) (st.trans s'), fun sc' hc' q σ' H' m' r' s' => f.bk _ hc' q _ H' m' (r'.unset i) (st.trans s'), fun sc' hc' q σ' H' m' r' s' => f.ct _ hc' q _ H' m' (r'.unset i) (st.trans s'), fun d hc' q v H' m' x' r' => f.rt d hc' q v H' m' x' r', fun _ _ _ z => z.elim⟩⟩, fun z => by cases z⟩
      unfold Rep
      rcases rx.2 with ⟨e1, e2⟩ | ⟨dx, fs, e1, e2, e3, e4⟩
      · exact ⟨rfl, [], .inl ⟨e2, by rw [e1]; rfl, rfl⟩, by rw [e1]; exact RepL.nil⟩
      · exact ⟨rfl, _, .inr ⟨dx, fs, e1, e2, e3, rfl⟩, e4⟩
    · rename_i e
      exact ⟨false, tb _ _ e _ rx.1, fun z => (by cases z), fun _ => f.xp x sc1 hc1 px cls d σ1 H1 m1 r2 rx⟩
    · exact px.elim⟩
end
def cXf (ys : List Str) (a : Addr) (y : Str) (d : Option Addr) (i : Nat) (f : Str) : CEx := fun _ sc hc P => ys.contains y = true ∧ match look sc i with
  | some (.exn a' d' ns xs) => a' = a ∧ d' = d ∧ (match (ns.zip xs).lookup f with
    | some v => P v hc
    | none => False)
  | _ => False
theorem repl_look {K : PySem.W.Frag} {H : Hp} {m : Ms} {f : Str} {dv : D} : ∀ {fs : List (Str × V)} {xs : List D}, RepL K H m xs (fs.map (·.2)) → ((fs.map (·.1)).zip xs).lookup f = some dv → ∃ v, fs.lookup f = some v ∧ Rep K H m dv v
  | [], xs, h, e => by simp at e
  | (g, v) :: fs, [], h, e => by simp at e
  | (g, v) :: fs, x :: xs, h, e => by
    unfold RepL at h
    obtain ⟨v', r, e1, q1, q2⟩ := h
    cases e1
    rw [List.map_cons, List.zip_cons_cons, List.lookup_cons] at e
    rw [List.lookup_cons]
    cases z : (f == g) with
    | true =>
      rw [z] at e
      cases e
      exact ⟨v, rfl, q1⟩
    | false =>
      rw [z] at e
      exact repl_look q2 e
theorem ce_xf {X : Cx} {a : Addr} {oe : Obj} {y n f : Str} {cls : Value} {d : Option Addr} {pn : List (Addr × Obj)} {np pos : Pos} {ys : List Str} {i : Nat} (tx : ∀ y, ys.contains y = true → ∃ C, X.mg y = some (.ref C) ∧ XfC X.K C ∧ PySem.W.findIn X.K (.ref C) f = some none)
    (hy : X.mg y = some cls) (hz : Zc cls d oe) (hv : ∃ vs, oe.data = .fields vs) (hi : X.N[i]? = some n := by rfl) (hvi : Vis X.env.scope n := by first | exact Or.inl rfl | exact Or.inr (Or.inl rfl) | exact Or.inr (Or.inr rfl)) (hd : (n == ("__debug__" : Str)) = false := by decide) (hcd : (n == ("__classdict__" : Str)) = false := by decide) :
    CE (X.suite a ((a, oe) :: pn)) W0 (.Attribute (.Name n np) f pos) (cXf ys a y d i f) := by
  refine ⟨⟨fun pins s σ H Q I ⟨en, sc, hc, m, E, P, r, ⟨hc1, k⟩, xo, fin⟩ => ?_⟩⟩
  obtain ⟨C, e1, T, hno⟩ := tx y hc1
  rw [hy] at e1
  cases e1
  refine (pe_xf T hno hz hv (pe_var (X := X.suite a ((a, oe) :: pn)) (pos := np) hi hvi hd hcd)).run pins s σ H Q I ?_
  split at k
  · rename_i a' d' ns xs el
    obtain ⟨rfl, rfl, k⟩ := k
    obtain ⟨v0, e1, q0⟩ := r.slot i _ (look_get el)
    unfold Rep at q0
    obtain ⟨rfl, vs, xf, q0⟩ := q0
    refine ⟨_, e1, rfl, rfl, ?_⟩
    split at k
    · rename_i dv ef
      rcases xf with ⟨_, rfl, _⟩ | ⟨dd, fs, e2, e3, rfl, rfl⟩
      · simp at ef
      · obtain ⟨v, e4, q4⟩ := repl_look q0 ef
        exact ⟨dd, fs, v, e2, e3, e4, fin _ hc k v H m (.refl r.toWd) q4⟩
    · exact k.elim
  · exact k.elim
end Mn
set_option maxHeartbeats 2000000
namespace Mn
open PySem PySem.Spec PyProof.Rows L2 NdefX
structure IniD where
  x : Str
  ve : Bool
  px : Str
  f : Str
  st : Stmt
def clsInit (s : Stmt) : Stmt := match s with
  | .ClassDef _ _ _ (b :: _) _ _ _ _ _ _ _ => b
  | _ => s
abbrev IniW : Type := Option (Str × Arguments × FuncBody × Scope × Addr × List Str × Addr)
def iniW (K : PySem.W.Frag) (x : Str) : IniW := match K.lookup (He.fAd K (x, some "__init__")) with
  | some ⟨_, _, .func fd, _⟩ => some (fd.name, fd.params, fd.body, fd.scope, fd.globals, fd.closure.map (·.1), fd.builtins)
  | _ => none
def IniD.val (d : IniD) : IniW := some ("__init__", defArgs d.st, .stmts (defBody d.st), defScope d.st, mainGlobals, ["__class__"], builtinsNs)
def bB (ve : Bool) : String := if ve then "ValueError" else "LookupError"
def bN (ve : Bool) : String := if ve then "ValueError.__new__" else "LookupError.__new__"
def bI (ve : Bool) : String := if ve then "ValueError.__init__" else "LookupError.__init__"
def bM (ve : Bool) : List Value := if ve then [.type "ValueError", .type "Exception", .type "BaseException", .type "object"] else [.type "LookupError", .type "Exception", .type "BaseException", .type "object"]
theorem bFB (ve : Bool) : PySem.ExcBaseFacts (bB ve) (bN ve) (bI ve) (bM ve) := by cases ve; exact PySem.F.excBase_LookupError; exact PySem.F.excBase_ValueError
theorem bSF (ve : Bool) : PySem.StoreFacts (bB ve) (bM ve) "object.__setattr__" "object" := by cases ve; exact PySem.F.store_LookupError; exact PySem.F.store_ValueError
theorem bKF (ve : Bool) : PySem.W.KxsFacts (bB ve) (bI ve) := by cases ve; exact PySem.W.kxs_LookupError; exact PySem.W.kxs_ValueError
def iniFB (K : PySem.W.Frag) (file : Str) (C : Addr) (o : Option Obj) : Bool := match o with
  | some ⟨_, _, .func fd, _⟩ => (match fd.code, fd.closure, fd.defaults with
    | .ref cda, [(_, cc)], .none => PySem.W.codeIn K (.ref cda) fd.qualname && ((match K.lookup cda with
      | some ⟨_, _, .fields vs, _⟩ => (match (vs[2]? : Option Value) with
        | some (Value.str fl _) => decide (fl = file)
        | _ => false)
      | _ => false) && (match K.lookup cc with
      | some ⟨_, _, .cell (some (.ref D)), _⟩ => decide (D = C)
      | _ => false))
    | _, _, _ => false)
  | _ => false
def ownB (K : PySem.W.Frag) (file : Str) (d : IniD) : Bool := (PySem.W.excInitIn K (He.ga K d.x) (bM d.ve) (bN d.ve) && PySem.W.excOver K (He.ga K d.x) (bM d.ve)) && ((PySem.W.hasDictIn K (He.ga K d.x) && (decide (PySem.W.findIn K (.ref (He.ga K d.x)) "__setattr__" = some (some (.builtin "object.__setattr__"))) &&
  decide (PySem.W.findIn K (.ref (He.ga K d.x)) d.f = some none))) && ((decide (PySem.W.ks_superIn K (He.ga K d.x) (He.ga K d.x) "__init__" = some (some (.builtin (bI d.ve)))) && (decide (PySem.W.subIn K (.ref (He.ga K d.x)) (.type (bB d.ve)) = some true) && decide (PySem.W.mroIn K (He.ga K d.x) (.ref (He.ga K d.x)) = some true))) &&
  ((decide (PySem.W.subIn K (.ref (He.ga K d.x)) (.type "BaseException") = some true) && (decide (PySem.W.typeIn K (.ref (He.ga K d.x)) = some (.type "type")) && PySem.W.keepIn K (.ref (He.ga K d.x)))) && ((decide (PySem.W.nsIn K cStatics "thirdparty.any" = some none) && xfB K (He.ga K d.x)) &&
  (decide (PySem.W.findIn K (.ref (He.ga K d.x)) "__init__" = some (some (.ref (He.fAd K (d.x, some "__init__"))))) && (decide (PySem.W.typeIn K (.ref (He.fAd K (d.x, some "__init__"))) = some (.type "function")) && iniFB K file (He.ga K d.x) (K.lookup (He.fAd K (d.x, some "__init__")))))))))
structure IniT (d : IniD) : Prop where
  body : IniBody d.px d.f (defBody d.st)
  bind : ∀ (q : Str) (kV doc pm : Value) (an : Option Addr) (cdv ct : Value) (cc : Addr) (a u : Value), bindArgs (PySem.W.ksFn "__init__" q (defArgs d.st) (defBody d.st) (defScope d.st) .none kV doc pm an cdv ct cc) ⟨[a, u], []⟩ = pure [(("self" : Str), a), (d.px, u)]
  head : ∃ ar : Arg, ((defArgs d.st).posonlyargs ++ (defArgs d.st).args).head? = some ar ∧ ar.arg = "self"
  dbg : (d.px == ("__debug__" : Str)) = false ∧ d.px ≠ "self"
  sup : (defScope d.st).names.lookup ("super" : Str) = some .globalImplicit
  cls : (defScope d.st).names.lookup ("__class__" : Str) = some .free
  slf : (defScope d.st).names.lookup ("self" : Str) = some .local
  par : (defScope d.st).names.lookup d.px = some .local
  kd : (defScope d.st).kind = .function
  co : (defScope d.st).isCoroutine = false
  gn : (defScope d.st).isGenerator = false
  nc : ∀ x ∈ (defScope d.st).names, x.2 ≠ .cell
def OwnC (K : PySem.W.Frag) (mg : Str → Option Value) (x px f file : Str) : Prop := ∃ (C : Addr) (B newId initId : String) (bmB : List Value), mg x = some (.ref C) ∧ OwnX K C B newId initId bmB px f file ∧ XfC K C
theorem ownC_of {K : PySem.W.Frag} {mg : Str → Option Value} {file : Str} {d : IniD} (h : ownB K file d = true) (e : iniW K d.x = d.val) (t : IniT d) (hm : mg d.x = some (.ref (He.ga K d.x))) : OwnC K mg d.x d.px d.f file := by
  unfold ownB at h
  simp only [Bool.and_eq_true] at h
  obtain ⟨⟨h1, h2⟩, ⟨h3, h4, h5⟩, ⟨h6, h7, h8⟩, ⟨h9, h10, h11⟩, ⟨h12, h13⟩, h14, h15, h16⟩ := h
  refine ⟨He.ga K d.x, _, _, _, _, hm, ⟨bFB d.ve, bSF d.ve, bKF d.ve, h1, h2, h3, of_decide_eq_true h4, of_decide_eq_true h5, of_decide_eq_true h6, of_decide_eq_true h7, of_decide_eq_true h8, of_decide_eq_true h9, of_decide_eq_true h10, h11, of_decide_eq_true h12, ?_⟩, xfB_ok h13⟩
  have e14 := of_decide_eq_true h14
  have e15 := of_decide_eq_true h15
  unfold iniW at e
  generalize He.fAd K (d.x, some "__init__") = fI at *
  cases q : K.lookup fI with
  | none =>
    rw [q] at e
    cases e
  | some o =>
    obtain ⟨oc, od, dt, osl⟩ := o
    rw [q] at e h16
    cases dt with
    | func fd =>
      obtain ⟨n1, n2, n3, n4, n5, n6, n7, n8, n9, n10, n11, n12, n13, n14, n15⟩ := fd
      have e2 : (some (n1, n3, n4, n5, n6, n7.map (·.1), n15) : IniW) = (some (("__init__" : Str), defArgs d.st, FuncBody.stmts (defBody d.st), defScope d.st, mainGlobals, [("__class__" : Str)], builtinsNs) : IniW) := e
      simp only [Option.some.injEq, Prod.mk.injEq] at e2
      obtain ⟨k1, k2, k3, k4, k5, k6, k7⟩ := e2
      subst k1 k2 k3 k4 k5 k7
      obtain ⟨cda, rfl⟩ : ∃ cda, n13 = .ref cda := by
        cases n13 <;> first | exact ⟨_, rfl⟩ | exact absurd h16 Bool.false_ne_true
      obtain ⟨nm, cc, rfl⟩ : ∃ nm cc, n7 = [(nm, cc)] := by
        rcases n7 with _ | ⟨⟨nm, cc⟩, _ | ⟨z, r⟩⟩
        · exact absurd h16 Bool.false_ne_true
        · exact ⟨nm, cc, rfl⟩
        · exact absurd h16 Bool.false_ne_true
      obtain rfl : n8 = .none := by
        cases n8 <;> first | rfl | exact absurd h16 Bool.false_ne_true
      have k6 : [nm] = [("__class__" : Str)] := k6
      cases k6
      have h17 : (PySem.W.codeIn K (.ref cda) n2 && ((match K.lookup cda with
        | some ⟨_, _, .fields vs, _⟩ => (match (vs[2]? : Option Value) with
          | some (Value.str fl _) => decide (fl = file)
          | _ => false)
        | _ => false) && (match K.lookup cc with
        | some ⟨_, _, .cell (some (.ref D)), _⟩ => decide (D = He.ga K d.x)
        | _ => false))) = true := h16
      · simp only [Bool.and_eq_true] at h17
        obtain ⟨c1, c2, c3⟩ := h17
        split at c2
        · rename_i a1 a2 vs a3 q2
          split at c2
          · rename_i fl tf q3
            have c2 := of_decide_eq_true c2
            subst c2
            split at c3
            · rename_i b1 b2 D b3 q4
              have c3 := of_decide_eq_true c3
              subst c3
              obtain ⟨ar, r1, r2⟩ := t.head
              exact ⟨fI, cc, cda, n2, _, _, _, .none, n9, n10, n11, n14, oc, a1, b1, n12, od, a2, b2, osl, a3, b3, vs, tf, ar, e14, e15, q, c1, q2, q3, q4, t.body, fun a u => t.bind n2 n9 n10 n11 n12 (.ref cda) n14 cc a u, r1, r2, t.dbg.1, t.dbg.2, t.sup, t.cls, t.slf, t.par, t.kd, t.co, t.gn, t.nc⟩
            · cases c3
          · cases c2
        · cases c2
    | _ => cases e
section
variable {X : Cx} {W : WX} {x px f file : Str} {e : Expr} {p pos pos' : Pos}
theorem cs_raiseC {l : Nat} {ce : CEx} (hr : RT l X W) (T : OwnC X.K X.mg x px f file) (S : Sup X.prog file) (ns : X.mg "super" = none) (h : CE X W e ce) (hl : 1 ≤ l := by decide) (hc : X.calm = true := by rfl) (hg : Gl X x := by rfl) (hdb : (x == ("__debug__" : Str)) = false := by decide)
    (he : starEach [e] X.env = (false, eval e X.env) :: starEach [] X.env := by rfl) (hpl : (backTo pos (starEach [] X.env)).any (·.1) = false := by rfl) : CS X W (.Raise (some (.Call (.Name x p) [e] [] pos)) none pos') (cRaise x f ce) := by
  obtain ⟨C, B, n1, n2, bm, hm, T, _⟩ := T
  exact cs_raise hr T S hm ns h hl hc hg hdb he hpl
end
theorem names_own {X : Cx} {x : Str} {C : Addr} (hm : X.mg x = some (.ref C)) (hg : Gl X x := by rfl) (hdb : (x == ("__debug__" : Str)) = false := by decide) : Names X x (.ref C) := ⟨hg, hdb, .inl hm⟩
def ExmC (K : PySem.W.Frag) (mg : Str → Option Value) (y z : Str) (b : Bool) : Prop := ∃ C D, mg y = some (.ref C) ∧ mg z = some (.ref D) ∧ PySem.W.exmOne K (.ref C) (.ref D) = some b
theorem exm_nil {K : PySem.W.Frag} {mg : Str → Option Value} {c : Value} : ∀ (y : Str) (b : Bool), ([] : List (Str × Bool)).lookup y = some b → ∀ cls, mg y = some cls → PySem.W.exmOne K cls c = some b := fun y b e => by cases e
theorem exm_cons {K : PySem.W.Frag} {mg : Str → Option Value} {y z : Str} {b : Bool} {C : Addr} {ct : List (Str × Bool)} (h : ExmC K mg y z b) (hz : mg z = some (.ref C)) (r : ∀ (y : Str) (b : Bool), ct.lookup y = some b → ∀ cls, mg y = some cls → PySem.W.exmOne K cls (.ref C) = some b) :
    ∀ (y' : Str) (b' : Bool), ((y, b) :: ct).lookup y' = some b' → ∀ cls, mg y' = some cls → PySem.W.exmOne K cls (.ref C) = some b' := fun y' b' e cls hm => by
  obtain ⟨C1, D, e1, e2, e3⟩ := h
  rw [hz] at e2
  cases e2
  rw [List.lookup_cons] at e
  cases q : (y' == y) with
  | true =>
    rw [q] at e
    cases e
    rw [beq_iff_eq.mp q, e1] at hm
    cases hm
    exact e3
  | false =>
    rw [q] at e
    exact r y' b' e cls hm
theorem cs_try_asC {X : Cx} {W : WX} {body suite : List Stmt} {b₀ : Stmt} {z n : Str} {i l : Nat} {cb : CSx} {cs : Addr → Str → Option Addr → CSx} {ct : List (Str × Bool)} {np pos pos' : Pos} (hr : RT l X W) (hN : X.N.Nodup) (hc : ∃ C, X.mg z = some (.ref C))
    (tb : ∀ C, X.mg z = some (.ref C) → ∀ (y : Str) (b : Bool), ct.lookup y = some b → ∀ cls, X.mg y = some cls → PySem.W.exmOne X.K cls (.ref C) = some b)
    (hb : ∀ (W' : WX) (pn : List (Addr × Obj)) (xe : Value → Shared → Prop), RT l (X.tr pn xe) W' → CSs (X.tr pn xe) W' body cb)
    (hsu : ∀ (a : Addr) (oe : Obj) (y : Str) (cls : Value) (d : Option Addr) (pn : List (Addr × Obj)), X.mg y = some cls → Zc cls d oe → (∃ vs, oe.data = .fields vs) → CSs (X.suite a ((a, oe) :: pn)) W0 (b₀ :: suite) (cs a y d))
    (hg : Gl X z := by rfl) (hdb : (z == ("__debug__" : Str)) = false := by decide) (hi : X.N[i]? = some n := by rfl) (hln : X.env.kindOf n = some .local := by rfl) (hs : X.stack = X.env :: X.outer := by rfl) (hf : X.env.frame = some X.env.locals := by rfl) :
    CS X W (.Try body [.ExceptHandler (some (.Name z np)) (some n) (b₀ :: suite) pos'] [] [] pos) (cTryAs ct cb i cs) := by
  obtain ⟨C, h⟩ := hc
  exact cs_try_as hr hN (names_own h hg hdb) (tb C h) hb hsu hi hln hs hf
theorem e_Xf {ys : List Str} {a : Addr} {y : Str} {d : Option Addr} {i : Nat} {f : Str} {E : XP} {sc : List Sl} {hc : CH} {P : D → CH → Prop} : cXf ys a y d i f E sc hc P = (ys.contains y = true ∧ match look sc i with
  | some (.exn a' d' ns xs) => a' = a ∧ d' = d ∧ (match (ns.zip xs).lookup f with
    | some v => P v hc
    | none => False)
  | _ => False) := rfl
theorem tx_nil {K : PySem.W.Frag} {mg : Str → Option Value} {f : Str} : ∀ y : Str, ([] : List Str).contains y = true → ∃ C, mg y = some (.ref C) ∧ XfC K C ∧ PySem.W.findIn K (.ref C) f = some none := fun y e => by cases e
theorem tx_cons {K : PySem.W.Frag} {mg : Str → Option Value} {x px f file : Str} {ys : List Str} (T : OwnC K mg x px f file) (r : ∀ y : Str, ys.contains y = true → ∃ C, mg y = some (.ref C) ∧ XfC K C ∧ PySem.W.findIn K (.ref C) f = some none) :
    ∀ y : Str, (x :: ys).contains y = true → ∃ C, mg y = some (.ref C) ∧ XfC K C ∧ PySem.W.findIn K (.ref C) f = some none := fun y e => by
  rw [List.contains_cons, Bool.or_eq_true] at e
  rcases e with e | e
  · obtain ⟨C, _, _, _, _, h1, h2, h3⟩ := T
    rw [beq_iff_eq.mp e]
    exact ⟨C, h1, h3, h2.no⟩
  · exact r y e
theorem e_Raise {x f : Str} {ce : CEx} {C : CEnds} {sc : List Sl} {hc : CH} : cRaise x f ce C sc hc = ce C.xp sc hc fun d hc1 => C.xp ⟨x, [(f, d)]⟩ sc hc1 := rfl
def obsXG (n : Nat) (fa : List He.Fa) (fn : List He.DefD) (tc : TupC) (lm : List Str) (file : Str) (ini : List IniD) (g : Addr → Option Obj) : ((He.AlD × Bool) × Bool) × (Bool × List IniW) :=
  (obsLG n fa fn tc lm g, (ini.all (ownB (He.frT g (He.asD g n ++ [sysModules, cStatics])) file), ini.map fun d => iniW (He.frT g (He.asD g n ++ [sysModules, cStatics])) d.x))
theorem map_val {K : PySem.W.Frag} : ∀ {ini : List IniD}, (ini.map fun d => iniW K d.x) = ini.map IniD.val → ∀ d ∈ ini, iniW K d.x = d.val
  | [], _, d, h => by cases h
  | a :: r, e, d, h => by
    injection e with e1 e2
    rcases List.mem_cons.mp h with rfl | h
    · exact e1
    · exact map_val e2 d h
end Mn
namespace Mn
open PySem PySem.Spec PyProof.Rows L2 NdefX
section
variable {X : Cx} {W : WX} {x g : Str} {p pos : Pos} {e : Expr} {es : List Expr} {c : CAx} {i l : Nat} {tbl : List (Str × Spc)}
def cFnV (x : Str) : CEx := fun _ _ hc P => P (.fn x) hc
end
theorem e_FnV {x : Str} {E : XP} {sc : List Sl} {hc : CH} {P : D → CH → Prop} : cFnV x E sc hc P = P (.fn x) hc := rfl
section
variable {prog : Program} {w : World} {A : Around} {E : Value → Shared → Prop} {s : Shared} {x y : Addr}
end
def FvOk (K : PySem.W.Frag) (FV : List Str) : Prop := ∀ a ∈ FV, ∃ (od : Option Addr) (fd : FuncData) (sl : Array (Option Value)), K.lookup (He.ga K a) = some ⟨.type "function", od, .func fd, sl⟩ ∧ fd.name = a
def fvB (K : PySem.W.Frag) (a : Str) : Bool := match K.lookup (He.ga K a) with
  | some ⟨.type c, _, .func fd, _⟩ => decide (c = "function") && decide (fd.name = a)
  | _ => false
theorem fvB_ok {K : PySem.W.Frag} {FV : List Str} (h : FV.all (fvB K) = true) : FvOk K FV := fun a ha => by
  have e := List.all_eq_true.mp h a ha
  unfold fvB at e
  split at e
  · rename_i c od fd sl q
    rw [Bool.and_eq_true] at e
    have e1 := of_decide_eq_true e.1
    subst e1
    exact ⟨od, fd, sl, q, of_decide_eq_true e.2⟩
  · cases e
theorem FvOk.inj {K : PySem.W.Frag} {FV : List Str} (h : FvOk K FV) {a b : Str} (ha : a ∈ FV) (hb : b ∈ FV) (e : He.ga K a = He.ga K b) : a = b := by
  obtain ⟨o1, f1, s1, q1, n1⟩ := h a ha
  obtain ⟨o2, f2, s2, q2, n2⟩ := h b hb
  rw [e, q2] at q1
  cases q1
  exact n1.symm.trans n2
def inFD (FV : List Str) : O2 := fun x y _ P => match x, y with
  | .fn a, .tup ys => ∃ zs : List Str, ys = zs.map D.fn ∧ a ∈ FV ∧ (∀ z ∈ zs, z ∈ FV) ∧ P (.bl (decide (a ∈ zs)))
  | _, _ => False
theorem o_inF {FV : List Str} {a : Str} {ys : List D} {hc : CH} {P : D → Prop} : inFD FV (.fn a) (.tup ys) hc P = ∃ zs : List Str, ys = zs.map D.fn ∧ a ∈ FV ∧ (∀ z ∈ zs, z ∈ FV) ∧ P (.bl (decide (a ∈ zs))) := rfl
def obsYG (n : Nat) (fa : List He.Fa) (fn : List He.DefD) (tc : TupC) (lm : List Str) (file : Str) (ini : List IniD) (fv : List Str) (g : Addr → Option Obj) : (((He.AlD × Bool) × Bool) × (Bool × List IniW)) × Bool :=
  (obsXG n fa fn tc lm file ini g, fv.all (fvB (He.frT g (He.asD g n ++ [sysModules, cStatics]))))
def hookY (n : Nat) (fa : List He.Fa) (fn : List He.DefD) (tc : TupC) (lm : List Str) (file : Str) (ini : List IniD) (fv : List Str) : PySem.W.Hook where
  α := (((He.AlD × Bool) × Bool) × (Bool × List IniW)) × Bool
  obs := fun s => obsYG n fa fn tc lm file ini fv s.heap.get?
  val := fun _ => ((((He.valD fn, true), true), (true, ini.map IniD.val)), true)
  says := fun _ h => ∃ K : PySem.W.Frag, K.In h ∧ SaysT fa fn tc K h ∧ (∀ x ∈ lm, lamN K x = true) ∧ (∀ d ∈ ini, ownB K file d = true ∧ iniW K d.x = d.val) ∧ FvOk K fv
  of := fun _ s e => by
    have ex : obsXG n fa fn tc lm file ini s.heap.get? = (((He.valD fn, true), true), (true, ini.map IniD.val)) := congrArg (fun z : (((He.AlD × Bool) × Bool) × (Bool × List IniW)) × Bool => z.1) e
    have ey : fv.all (fvB (He.frT s.heap.get? (He.asD s.heap.get? n ++ [sysModules, cStatics]))) = true := congrArg (fun z : (((He.AlD × Bool) × Bool) × (Bool × List IniW)) × Bool => z.2) e
    have e0 : obsLG n fa fn tc lm s.heap.get? = ((He.valD fn, true), true) := congrArg (fun z : ((He.AlD × Bool) × Bool) × (Bool × List IniW) => z.1) ex
    have e1 : obsTG n fa fn tc s.heap.get? = (He.valD fn, true) := congrArg (fun z : (He.AlD × Bool) × Bool => z.1) e0
    have e2 : lm.all (lamN (He.frT s.heap.get? (He.asD s.heap.get? n ++ [sysModules, cStatics]))) = true := congrArg (fun z : (He.AlD × Bool) × Bool => z.2) e0
    have e3 : ini.all (ownB (He.frT s.heap.get? (He.asD s.heap.get? n ++ [sysModules, cStatics])) file) = true := congrArg (fun z : ((He.AlD × Bool) × Bool) × (Bool × List IniW) => z.2.1) ex
    have e4 : (ini.map fun d => iniW (He.frT s.heap.get? (He.asD s.heap.get? n ++ [sysModules, cStatics])) d.x) = ini.map IniD.val := congrArg (fun z : ((He.AlD × Bool) × Bool) × (Bool × List IniW) => z.2.2) ex
    exact ⟨He.frT s.heap.get? (He.asD s.heap.get? n ++ [sysModules, cStatics]), He.frT_in, saysT_of e1, fun x hx => List.all_eq_true.mp e2 x hx, fun d hd => ⟨List.all_eq_true.mp e3 d hd, map_val e4 d hd⟩, fvB_ok ey⟩
  keeps := fun _ _ _ ⟨K, hK, ⟨c, d, t⟩, l⟩ k => ⟨K, PySem.W.Frag.In.keeps hK k, ⟨c, d, fun b hb => ⟨k _ _ (t b hb).1, (t b hb).2⟩⟩, l⟩
theorem obsYG_eq {n : Nat} {fa : List He.Fa} {fn : List He.DefD} {tc : TupC} {lm : List Str} {file : Str} {ini : List IniD} {fv : List Str} {g : Addr → Option Obj} {s : Shared} (h : ∀ a, g a = s.heap.get? a) : obsYG n fa fn tc lm file ini fv g = (hookY n fa fn tc lm file ini fv).obs s := by
  have e : g = s.heap.get? := funext h
  subst e
  rfl
end Mn
namespace Mn
open PySem PySem.Spec PyProof.Rows L2
def cParN (i n : Nat) (ca : CAx) (gs : CGsx) : CSx := fun C sc hc => ca C.xp sc hc fun ds hc1 => (ds.length = n ∧ n + 1 ≤ sizeLine) ∧ gs C.xp ds (sc.set i (.own [])) hc1 fun sc2 hc2 => C.nx sc2 hc2
section
variable {X : Cx} {W : WX} {ca : CAx} {gs : CGsx} {pos : Pos}
end
theorem e_ParN {i n : Nat} {ca : CAx} {gs : CGsx} {C : CEnds} {sc : List Sl} {hc : CH} : cParN i n ca gs C sc hc = ca C.xp sc hc fun ds hc1 => (ds.length = n ∧ n + 1 ≤ sizeLine) ∧ gs C.xp ds (sc.set i (.own [])) hc1 fun sc2 hc2 => C.nx sc2 hc2 := rfl
def rngS (lo c : Int) (n : Nat) : List D := (List.range n).map fun k : Nat => D.int (lo + (k : Int) * c)
def cR3P (ca : CAx) : CIx := fun E sc hc P => ca E sc hc fun ds hc1 => match ds with | [.int i, .int j, .int c] => DivOk (j - i) c ∧ P (rngS i c (Builtin.Range.rangeSize i j c).toNat) hc1 | _ => False
section
variable {X : Cx} {W : WX} {tg e : Expr} {ca : CAx} {pos : Pos}
end
theorem e_R3P {ca : CAx} {E : XP} {sc : List Sl} {hc : CH} {P : List D → CH → Prop} : cR3P ca E sc hc P = ca E sc hc fun ds hc1 => match ds with | [.int i, .int j, .int c] => DivOk (j - i) c ∧ P (rngS i c (Builtin.Range.rangeSize i j c).toNat) hc1 | _ => False := rfl
end Mn
set_option maxHeartbeats 4000000
namespace Mn
open PySem PySem.Spec PyProof.Rows PySem.Calls PySem.W
section
variable {prog : Program} {w : World} {A : Around} {E : Value → Shared → Prop} {s : Shared} {K : PySem.W.Frag} {x D : Addr} {ox : Obj} {od : Option Obj}
end
end Mn
namespace Mn
open PySem PySem.Spec PyProof.Rows L2
def IsK (K : PySem.W.Frag) (mg : Str → Option Value) (y : Str) (c : Value) (b : Bool) : Prop := ∃ D, mg y = some (.ref D) ∧ ExcC K D ∧ PySem.W.kitOne K (.ref D) c = some b
def cIsX (tb : List (Str × Bool)) (a : Addr) (y : Str) (d : Option Addr) (i : Nat) : CEx := fun _ sc hc P => match tb.lookup y with
  | some b => (match look sc i with
    | some (.exn a' d' _ _) => (a' = a ∧ d' = d) ∧ P (.bl b) hc
    | _ => False)
  | none => False
section
variable {X : Cx} {a : Addr} {oe : Obj} {y n z : Str} {cls : Value} {d : Option Addr} {pn : List (Addr × Obj)} {np p1 zp pos : Pos} {i : Nat} {tb : List (Str × Bool)}
end
theorem e_IsX {tb : List (Str × Bool)} {a : Addr} {y : Str} {d : Option Addr} {i : Nat} {E : XP} {sc : List Sl} {hc : CH} {P : D → CH → Prop} : cIsX tb a y d i E sc hc P = (match tb.lookup y with
  | some b => (match look sc i with
    | some (.exn a' d' _ _) => (a' = a ∧ d' = d) ∧ P (.bl b) hc
    | _ => False)
  | none => False) := rfl
inductive IsF where
  | own (y z : Str) (b : Bool)
  | blt (y : Str) (T : String) (b : Bool)
def IsF.y : IsF → Str
  | .own y _ _ => y
  | .blt y _ _ => y
def IsF.c (K : PySem.W.Frag) : IsF → Value
  | .own _ z _ => .ref (He.ga K z)
  | .blt _ T _ => .type T
def IsF.b : IsF → Bool
  | .own _ _ b => b
  | .blt _ _ b => b
def IsN (K : PySem.W.Frag) (mg : Str → Option Value) (y z : Str) (b : Bool) : Prop := ∃ C, mg z = some (.ref C) ∧ IsK K mg y (.ref C) b
theorem IsN.at {K : PySem.W.Frag} {mg : Str → Option Value} {y z : Str} {b : Bool} {C : Addr} (h : IsN K mg y z b) (hz : mg z = some (.ref C)) : IsK K mg y (.ref C) b := by
  obtain ⟨D, e, k⟩ := h
  rw [hz] at e
  cases e
  exact k
end Mn
namespace Mn
open PySem PySem.Spec PyProof.Rows
section
variable {prog : Program} {w : World} {A : Around} {E : Value → Shared → Prop} {s : Shared} {Q : Bool → Shared → Prop}
def TupsL (h : Heap) (d : Nat) (f : Value → List Int) (vs : List Value) : Prop := ∀ v, v ∈ vs → TS.TupInts h v (f v) ∧ (f v).length = d
theorem TupsL.keeps {h h' : Heap} {d : Nat} {f : Value → List Int} {vs : List Value} (x : TupsL h d f vs) (k : ∀ b o, h.get? b = some o → o.cls = .type "tuple" → h'.get? b = some o) : TupsL h' d f vs := fun v hv => ⟨(x v hv).1.keeps k, (x v hv).2⟩
end
end Mn
namespace Mn
open PySem PySem.Spec PyProof.Rows L2
end Mn
namespace Mn
open PySem PySem.Spec PyProof.Rows L2
def zip3D (xs ys zs : List D) : List D := (List.range (min (min xs.length ys.length) zs.length)).map fun i => D.tup [xs.getD i .non, ys.getD i .non, zs.getD i .non]
def zip3P (ds : List D) (P : List D → CH → Prop) (hc : CH) : Prop := match ds with
  | [.lst xs, .lst ys, .lst zs] => P (zip3D xs ys zs) hc
  | _ => False
def cZip3 (c1 c2 c3 : CEx) : CIx := fun E sc hc P => cCons c1 (cCons c2 (cCons c3 cNil)) E sc hc fun ds hc1 => zip3P ds P hc1
theorem e_Zip3 {c1 c2 c3 : CEx} {E : XP} {sc : List Sl} {hc : CH} {P : List D → CH → Prop} : cZip3 c1 c2 c3 E sc hc P = cCons c1 (cCons c2 (cCons c3 cNil)) E sc hc fun ds hc1 => zip3P ds P hc1 := rfl
theorem o_zip3 {xs ys zs : List D} {hc : CH} {P : List D → CH → Prop} : zip3P [.lst xs, .lst ys, .lst zs] P hc = P (zip3D xs ys zs) hc := rfl
end Mn
namespace Mn
open PySem L2
end Mn
namespace Mn
open PySem PySem.Spec PyProof.Rows L2
def cParO3 (i j l : Nat) (ca : CAx) : CSx := fun C sc hc => ca C.xp sc hc fun ds hc1 => match ds with | [y, z] => C.nx (((sc.set i (.own [])).set j (.val y)).set l (.val z)) hc1 | _ => False
section
variable {X : Cx} {W : WX} {ca : CAx} {pos : Pos}
end
theorem e_ParO3 {i j l : Nat} {ca : CAx} {C : CEnds} {sc : List Sl} {hc : CH} : cParO3 i j l ca C sc hc = ca C.xp sc hc fun ds hc1 => match ds with | [y, z] => C.nx (((sc.set i (.own [])).set j (.val y)).set l (.val z)) hc1 | _ => False := rfl
section
variable {prog : Program} {w : World} {A : Around} {R : Result → Shared → Prop} {I : Addr} {fp wr : List Addr} {n : Nat} {P : Nat → Value → Prop} {St : Nat → Heap → Prop} {kw : List (Str × Value)}
end
section
variable {prog : Program} {w : World} {A : Around} {E : Value → Shared → Prop} {s : Shared}
end
def minDP (d : D) (P : D → CH → Prop) (hc : CH) : Prop := match d with
  | .lst xs => ∃ ns : List Int, xs = ns.map D.int ∧ (ns = [] → P .non hc) ∧ ∀ m, m ∈ ns → (∀ y, y ∈ ns → m ≤ y) → P (.int m) hc
  | _ => False
def cMinD (ca : CEx) : CEx := fun E sc hc P => ca E sc hc fun d hc1 => minDP d P hc1
section
variable {X : Cx} {W : WX} {e : Expr} {ca : CEx} {p pos kp np : Pos} {j : Nat}
end
theorem e_MinD {ca : CEx} {E : XP} {sc : List Sl} {hc : CH} {P : D → CH → Prop} : cMinD ca E sc hc P = ca E sc hc fun d hc1 => minDP d P hc1 := rfl
def ZSt (z TI TO i1 i2 a b S : Addr) (i : Nat) (h : Heap) : Prop := IsPair h TI (.ref i1) (.ref i2) ∧ h.IsListIter i1 a i ∧ h.IsListIter i2 b i ∧
  ((IsZip h z TI TO .none ∧ ∃ x y, IsPair h TO x y) ∨ ∃ T f oT, IsZipHeld h z TI TO T f ∧ h.get? T = some oT ∧ T ≠ z ∧ T ≠ i1 ∧ T ≠ i2 ∧ T ≠ S)
theorem ZSt.keep {z TI TO i1 i2 a b S : Addr} {i : Nat} {h h' : Heap} (st : ZSt z TI TO i1 i2 a b S i h) (n : S ≠ z ∧ S ≠ TI ∧ S ≠ TO ∧ S ≠ i1 ∧ S ≠ i2) (k : ∀ c o, c ≠ S → h.get? c = some o → h'.get? c = some o) : ZSt z TI TO i1 i2 a b S i h' := by
  obtain ⟨hTI, h1, h2, hz⟩ := st
  obtain ⟨n1, n2, n3, n4, n5⟩ := n
  refine ⟨k _ _ n2.symm hTI, h1.at fun o e => k _ o n4.symm e, h2.at fun o e => k _ o n5.symm e, ?_⟩
  rcases hz with ⟨hz, x, y, hTO⟩ | ⟨T, f, oT, hz, hT, r1, r2, r3, r4⟩
  · exact .inl ⟨k _ _ n1.symm hz, x, y, k _ _ n3.symm hTO⟩
  · exact .inr ⟨T, f, oT, k _ _ n1.symm hz, k _ _ r4 hT, r1, r2, r3, r4⟩
section
variable {prog : Program} {w : World} {A : Around} {z TI TO i1 i2 a b S : Addr} {xs ys : Array Value}
end
section
variable {X : Cx} {e e2 : Expr} {ta : TA} {p p2 pos pos2 : Pos}
end
def lzP (ds : List D) (P : D → CH → Prop) (hc : CH) : Prop := match ds with
  | [.lst xs, .lst ys] => min xs.length ys.length < sizeLine ∧ P (.lst (zipD xs ys)) hc
  | _ => False
def cLZip (c1 c2 : CEx) : CEx := fun E sc hc P => cCons c1 (cCons c2 cNil) E sc hc fun ds hc1 => lzP ds P hc1
theorem e_LZip {c1 c2 : CEx} {E : XP} {sc : List Sl} {hc : CH} {P : D → CH → Prop} : cLZip c1 c2 E sc hc P = cCons c1 (cCons c2 cNil) E sc hc fun ds hc1 => lzP ds P hc1 := rfl
theorem o_lzip {xs ys : List D} {hc : CH} {P : D → CH → Prop} : lzP [.lst xs, .lst ys] P hc = (min xs.length ys.length < sizeLine ∧ P (.lst (zipD xs ys)) hc) := rfl
end Mn
namespace Pz
open PySem
open Sem (wp)
def still (F : Frame) : Frame := .ret (fun _ => .unsupported "") none false [] F.where_.1 F.where_.2 []
def asleep : GenState → GenState
  | .suspended _ l c p fs cl => .suspended (fun _ => .unsupported "") l c p (fs.map still) cl
  | x => x
theorem asleep_bare (x : GenState) : (asleep x).bare = x.bare := by cases x <;> rfl
def sl (x : GenState) : Prop := x.status = .suspended
structure Z (G0 G B : Array GenState) : Prop where
  size : G.size = B.size
  old : ∀ (i : Nat) (x : GenState), G0[i]? = some x → sl x → G[i]? = some x ∧ B[i]? = some (asleep x)
  new : ∀ (i : Nat), (∀ x, G0[i]? = some x → ¬ sl x) → G[i]? = B[i]? ∧ ∀ k l c p fs cl, B[i]? = some (.suspended k l c p fs cl) → splitAtGen fs = none
  run : ∀ (i : Nat), G0[i]? = some .running → B[i]? = some .running
theorem Z.start (G : Array GenState) : Z G G (G.map asleep) where
  size := (Array.size_map ..).symm
  old := fun i x h hs => ⟨h, by rw [Array.getElem?_map, h]; rfl⟩
  new := fun i hi => by
    rw [Array.getElem?_map]
    cases h : G[i]? with
    | none => exact ⟨rfl, fun _ _ _ _ _ _ q => by cases q⟩
    | some x =>
      have hx := hi x h
      cases x with
      | suspended k l c p fs cl => exact absurd rfl hx
      | _ => exact ⟨rfl, fun _ _ _ _ _ _ q => by cases q⟩
  run := fun i h => by rw [Array.getElem?_map, h]; rfl
theorem Z.size0 {G0 G B : Array GenState} (z : Z G0 G B) {i : Nat} {x : GenState} (h : G0[i]? = some x) (hs : sl x) : i < G.size := by
  have := (z.old i x h hs).1
  exact (Array.getElem?_eq_some_iff.mp this).1
def awake (G0 : Array GenState) (i : Nat) : Prop := ∀ x, G0[i]? = some x → ¬ sl x
theorem not_awake {G0 : Array GenState} {i : Nat} (h : ¬ awake G0 i) : ∃ x, G0[i]? = some x ∧ sl x :=
  Classical.byContradiction fun q => h fun x hx hs => q ⟨x, hx, hs⟩
theorem Z.awake_of {G0 G B : Array GenState} (z : Z G0 G B) {i : Nat} {y : GenState} (h : B[i]? = some y) (hy : ¬ sl y) : awake G0 i := fun x hx hs => by
  have := (z.old i x hx hs).2
  rw [h] at this
  cases this
  cases x <;> simp_all [sl, asleep, GenState.status]
theorem Z.same {G0 G B : Array GenState} (z : Z G0 G B) {i : Nat} {y : GenState} (h : B[i]? = some y) (hy : ¬ sl y) : G[i]? = some y := by
  rw [← h]; exact (z.new i (z.awake_of h hy)).1
theorem Z.susp {G0 G B : Array GenState} (z : Z G0 G B) {i : Nat} {k : Resume → Sem PySem.Fin} {l : List Value} {c : Code} {p : Pos} {fs : List Frame} {cl : Bool} (h : B[i]? = some (.suspended k l c p fs cl)) :
    (awake G0 i ∧ G[i]? = some (.suspended k l c p fs cl) ∧ splitAtGen fs = none) ∨ k = fun _ => .unsupported "" := by
  by_cases ha : awake G0 i
  · exact .inl ⟨ha, by rw [← h]; exact (z.new i ha).1, (z.new i ha).2 _ _ _ _ _ _ h⟩
  · obtain ⟨x, hx, hs⟩ := not_awake ha
    have h2 := (z.old i x hx hs).2
    rw [h] at h2
    cases x with
    | suspended k' l' c' p' fs' cl' => cases h2; exact .inr rfl
    | _ => cases hs
theorem Z.set {G0 G B : Array GenState} (z : Z G0 G B) {i : Nat} (y : GenState) (hi : awake G0 i) (hr : G0[i]? ≠ some .running) (hy : ∀ k l c p fs cl, y = .suspended k l c p fs cl → splitAtGen fs = none) :
    Z G0 (G.setIfInBounds i y) (B.setIfInBounds i y) where
  size := by rw [Array.size_setIfInBounds, Array.size_setIfInBounds, z.size]
  old := fun j x h hs => by
    have hne : i ≠ j := fun e => hi x (e ▸ h) hs
    rw [Array.getElem?_setIfInBounds_ne hne, Array.getElem?_setIfInBounds_ne hne]
    exact z.old j x h hs
  new := fun j hj => by
    by_cases e : i = j
    · subst e
      rw [Array.getElem?_setIfInBounds_self, Array.getElem?_setIfInBounds_self, z.size]
      refine ⟨rfl, fun k l c p fs cl q => ?_⟩
      split at q
      · exact hy k l c p fs cl (Option.some.inj q)
      · cases q
    · rw [Array.getElem?_setIfInBounds_ne e, Array.getElem?_setIfInBounds_ne e]
      exact z.new j hj
  run := fun j h => by
    have hne : i ≠ j := fun e => hr (e ▸ h)
    rw [Array.getElem?_setIfInBounds_ne hne]
    exact z.run j h
theorem Z.push {G0 G B : Array GenState} (z : Z G0 G B) (c : Code) : Z G0 (G.push (.fresh c)) (B.push (.fresh c)) where
  size := by rw [Array.size_push, Array.size_push, z.size]
  old := fun j x h hs => by
    have hl := z.size0 h hs
    have hl' : j < B.size := z.size ▸ hl
    rw [Array.getElem?_push_lt hl, Array.getElem?_push_lt hl']
    have := z.old j x h hs
    rw [Array.getElem?_eq_getElem hl, Array.getElem?_eq_getElem hl'] at this
    exact this
  new := fun j hj => by
    rw [Array.getElem?_push, Array.getElem?_push, z.size]
    split
    · exact ⟨rfl, fun _ _ _ _ _ _ q => by cases q⟩
    · exact z.new j hj
  run := fun j h => by
    have hl' : j < B.size := (Array.getElem?_eq_some_iff.mp (z.run j h)).1
    rw [Array.getElem?_push_lt hl', ← Array.getElem?_eq_getElem hl']
    exact z.run j h
def EndOk : End → Prop
  | .ret _ => True
  | .susp _ _ _ _ _ _ fs => splitAtGen fs = none
theorem EndOk.gen {e : End} (h : EndOk e) : ∀ k l c p fs cl, e.genState = .suspended k l c p fs cl → splitAtGen fs = none := by
  cases e with
  | ret r => intro k l c p fs cl q; cases q
  | susp v g l k c p fs => intro k' l' c' p' fs' cl q; cases q; exact h
structure Kept (G0 : Array GenState) (s' b' : Shared) : Prop where
  awk : ∀ (i : Nat) (x : GenState), b'.gens[i]? = some x → ¬ sl x → s'.gens[i]? = some x
  run : ∀ (i : Nat), G0[i]? = some .running → s'.gens[i]? = some .running
  eq : s' = { b' with gens := s'.gens }
  old : ∀ (i : Nat) (x : GenState), G0[i]? = some x → sl x → s'.gens[i]? = some x
  size : s'.gens.size = b'.gens.size
  bare : (∀ x ∈ b'.gens, x.bare = true) → ∀ x ∈ s'.gens, x.bare = true
theorem Kept.of_z {G0 : Array GenState} {s' b' : Shared} (h : s' = { b' with gens := s'.gens }) (z : Z G0 s'.gens b'.gens) : Kept G0 s' b' where
  awk := fun i x hx hs => z.same hx hs
  run := fun i h => z.same (z.run i h) (fun q => by cases q)
  eq := h
  old := fun i x hx hs => (z.old i x hx hs).1
  size := z.size
  bare := fun hb x hx => by
    obtain ⟨i, hi, rfl⟩ := Array.mem_iff_getElem.mp hx
    have hi' : i < b'.gens.size := z.size ▸ hi
    have hbi := hb _ (Array.getElem_mem hi')
    by_cases ha : awake G0 i
    · have := (z.new i ha).1
      rw [Array.getElem?_eq_getElem hi, Array.getElem?_eq_getElem hi'] at this
      rw [Option.some.inj this]
      exact hbi
    · obtain ⟨x, hx, hs⟩ := not_awake ha
      obtain ⟨h1, h2⟩ := z.old i x hx hs
      rw [Array.getElem?_eq_getElem hi] at h1
      rw [Array.getElem?_eq_getElem hi'] at h2
      rw [Option.some.inj h1, ← asleep_bare, ← Option.some.inj h2]
      exact hbi
def sleepy (s : Shared) : Shared := { s with gens := s.gens.map asleep }
structure Kz (G0 : Array GenState) (s b : Shared) : Prop where
  eq : s = { b with gens := s.gens }
  z : Z G0 s.gens b.gens
theorem Kz.start (s : Shared) : Kz s.gens s (sleepy s) := ⟨rfl, Z.start s.gens⟩
theorem Kz.kept {G0 : Array GenState} {s b : Shared} (k : Kz G0 s b) : Kept G0 s b := .of_z k.eq k.z
theorem Kz.heap {G0 : Array GenState} {s b : Shared} (k : Kz G0 s b) : s.heap = b.heap := by rw [k.eq]
def fx (x : GenState) : Prop := sl x ∨ x = .running
def Sk (T G : Array GenState) : Prop := ∀ (i : Nat) (x : GenState), T[i]? = some x → fx x → G[i]? = some x
theorem Sk.refl {T : Array GenState} : Sk T T := fun _ _ h _ => h
theorem Sk.none {G : Array GenState} : Sk #[] G := fun i x h _ => by simp at h
theorem Sk.trans {T G U : Array GenState} (a : Sk T G) (b : Sk G U) : Sk T U := fun i x h s => b i x (a i x h s) s
theorem Sk.set {T G : Array GenState} {i : Nat} {y : GenState} (a : Sk T G) (n : ∀ x, T[i]? = some x → ¬ fx x) : Sk T (G.setIfInBounds i y) := fun j x h s => by
  have ne : i ≠ j := fun e => n x (e ▸ h) s
  rw [Array.getElem?_setIfInBounds_ne ne]
  exact a j x h s
def Skx (i : Nat) (T G : Array GenState) : Prop := ∀ (j : Nat) (x : GenState), i ≠ j → T[j]? = some x → fx x → G[j]? = some x
theorem Skx.set {i : Nat} {T G : Array GenState} {y : GenState} (a : Skx i T G) : Skx i T (G.setIfInBounds i y) := fun j x ne h s => by
  rw [Array.getElem?_setIfInBounds_ne ne]
  exact a j x ne h s
theorem Skx.trans {i : Nat} {T G U : Array GenState} (a : Skx i T G) (b : Sk G U) : Skx i T U := fun j x ne h s => b j x (a j x ne h s) s
theorem Skx.run {i : Nat} {T G : Array GenState} (a : Skx i T G) (hi : i < G.size) (r : ∀ x, T[i]? = some x → fx x → x = .running) : Sk T (G.setIfInBounds i .running) := fun j x h s => by
  by_cases e : i = j
  · subst e
    rw [r x h s, Array.getElem?_setIfInBounds_self, if_pos hi]
  · rw [Array.getElem?_setIfInBounds_ne e]
    exact a j x e h s
end Pz
namespace Gn
open PySem PySem.Spec PyProof.Rows L2 GenW
def Sg (M : Model) (A : Around) (Φ : End → Shared → Prop) (c : Code) (t : Sem PySem.Fin) (fs : List Frame) (s : Shared) : Prop :=
  ∀ Γ p, Γ.code = c → Γ.Woken A → ∃ e s', Runs M Γ p t fs s e s' ∧ Φ e s'
section
variable {M : Model} {A : Around} {Φ : End → Shared → Prop} {c : Code} {fs : List Frame} {s : Shared} {env : Env}
theorem Sg.imp {Ψ : End → Shared → Prop} {t : Sem PySem.Fin} (h : Sg M A Φ c t fs s) (f : ∀ e s', Φ e s' → Ψ e s') : Sg M A Ψ c t fs s := fun Γ p h1 h2 => by
  obtain ⟨e, s', r, q⟩ := h Γ p h1 h2
  exact ⟨e, s', r, f e s' q⟩
variable {K : Flow → Sem PySem.Fin} {J : Value → Sem PySem.Fin} {gd : Bool → Bool} {lv : List Value → List Value}
end
section
variable {prog : Program} {w : World} {A : Around} {Φ : End → Shared → Prop} {fs : List Frame} {s : Shared} {env : Env}
end
def Wk (M : Model) (A : Around) (Φ : End → Shared → Prop) (gs : GenState) (s : Shared) : Prop :=
  match gs with
  | .fresh c => Sg M A Φ c (M.den c) [] s
  | .suspended k _ c _ fs _ => Sg M A Φ c (k (.send .none)) fs s
  | _ => False
end Gn
set_option maxHeartbeats 1000000
namespace Gn
open PySem PySem.Spec PyProof.Rows L2 GenW Mn
def cut (L : Nat) (h : Heap) : Heap := { h with objs := h.objs.extract 0 L ++ Array.replicate (L - h.objs.size) { cls := .none, data := .freed } }
theorem cut_size {h : Heap} {L : Nat} : (cut L h).objs.size = L := by
  show (h.objs.extract 0 L ++ Array.replicate (L - h.objs.size) _).size = L
  rw [Array.size_append, Array.size_extract, Array.size_replicate]; omega
theorem cut_get {h : Heap} {L a : Nat} (l : a < L) : (cut L h).get? a = h.get? a := by
  have e : (cut L h).objs[a]? = if a < h.objs.size then h.objs[a]? else some { cls := .none, data := .freed } := by
    show (h.objs.extract 0 L ++ Array.replicate (L - h.objs.size) _)[a]? = _
    rw [Array.getElem?_append, Array.size_extract]
    by_cases q : a < h.objs.size
    · rw [if_pos (by omega), if_pos q, Array.getElem?_extract, if_pos (by omega)]; simp
    · rw [if_neg (by omega), if_neg q, Array.getElem?_replicate, if_pos (by omega)]
  unfold Heap.get?
  rw [e]
  by_cases q : a < h.objs.size
  · rw [if_pos q]
  · rw [if_neg q, Array.getElem?_eq_none (by omega)]
theorem of_cut {h : Heap} {L a : Nat} {o : Obj} (e : (cut L h).get? a = some o) : a < L ∧ h.get? a = some o := by
  have l : a < L := Nat.lt_of_lt_of_le (Heap.lt_size e) (Nat.le_of_eq cut_size)
  exact ⟨l, by rw [← cut_get l]; exact e⟩
section
variable {X : Cx} {pins : List (Addr × Obj)} {σ : L2.St} {H : Hp} {s : Shared}
end
structure Z where
  P : Program
  w : World
  K : PySem.W.Frag
  mg : Str → Option Value
  base : Heap
  A : Around
  outer : List Env
  env : Env
  N : List Str
  pn : List (Addr × Obj)
abbrev Z.L (z : Z) : Addr := z.env.locals
def Z.ctx (z : Z) (s : Shared) (H : Hp) : Cx :=
  { prog := z.P, w := z.w, K := z.K, mg := z.mg, base := z.base, A := z.A.deeper z.env, N := z.N, s_0 := { s with heap := cut z.env.locals s.heap }, H_0 := H, env := z.env, outer := z.outer, stack := z.env :: z.outer,
    ex := [], fn := fun _ => true, calm := true, pn := z.pn, xe := fun _ _ => False }
structure Z.Ok (z : Z) : Prop where
  kind : z.env.scope.kind = .function
  glob : z.env.globals = mainGlobals
  blt : z.env.builtins = builtinsNs
  frame : z.env.frame = some z.env.locals
  inj : ∀ x y c, z.env.cells.lookup x = some c → z.env.cells.lookup y = some c → x = y
  has : ∀ x, (z.env.kindOf x = some .cell ∨ z.env.kindOf x = some .free) → ∃ c, z.env.cells.lookup x = some c
  cab : ∀ x c, z.env.cells.lookup x = some c → z.env.locals ≤ c
  bsz : z.base.objs.size ≤ z.env.locals
  hd : z.A.handled = none
  fr : z.A.frames = some z.outer
  old : ∀ b ∈ frs z.outer, b < z.env.locals
structure Z.In (z : Z) (s : Shared) (H : Hp) : Prop where
  e0 : Env0 z.P z.w z.K z.mg z.base z.A z.outer s H
  pn : ∀ p ∈ z.pn, s.heap.get? p.1 = some p.2 ∧ H p.1 = none ∧ p.1 ≠ z.env.locals ∧ p.1 ∉ frs z.outer ∧ ∀ v, p.2.data ≠ .cell v
theorem Z.Ok.cxOk {z : Z} {s : Shared} {H : Hp} (k : z.Ok) (i : z.In s H) : (z.ctx s H).Ok where
  mod := i.e0.mod
  kind := k.kind
  glob := k.glob
  blt := k.blt
  above := Nat.le_of_eq cut_size
  inj := k.inj
  has := k.has
  cab := fun x c _ e => Nat.le_trans (Nat.le_of_eq cut_size) (k.cab x c e)
  hd := fun _ => k.hd
  frames := Around.frames_deeper k.fr
  stk := .inr ⟨rfl, k.frame⟩
  exf := fun b hb => by cases hb
  bs := fun b o e => by
    obtain ⟨h1, h2⟩ := i.e0.bs b o e
    exact ⟨(cut_get (Nat.lt_of_lt_of_le (Heap.lt_size e) k.bsz)).trans h1, h2⟩
  bsz := Nat.le_trans k.bsz (Nat.le_of_eq cut_size.symm)
  noex := fun b o e hb => by cases hb
  exfs := fun b hb => by cases hb
  funs := by
    have all : ∀ l : List Env, (∀ b ∈ frs l, b < z.env.locals) → s.heap.FunFrames z.base l → (cut z.env.locals s.heap).FunFrames z.base l := by
      intro l
      induction l with
      | nil => intro _ _; trivial
      | cons env r ih =>
        intro hs hl
        obtain ⟨hk, ⟨L, o, hf, hn, ho, hd⟩, hr⟩ := hl
        have hL : L < z.env.locals := hs L (by unfold frs; rw [List.filterMap_cons, hf]; exact List.mem_cons_self)
        exact ⟨hk, ⟨L, o, hf, hn, (cut_get hL).trans ho, hd⟩, ih (fun b hb => hs b (by unfold frs; rw [List.filterMap_cons, hf]; exact List.mem_cons_of_mem _ hb)) hr⟩
    exact all z.outer k.old i.e0.funs
  frf := i.e0.frf
def fpO (z : Z) (ip : List (Addr × Obj)) : List Addr := z.env.locals :: (z.env.cells.filterMap (fun p => z.env.cells.lookup p.1) ++ ip.map (·.1))
theorem cell_mem {z : Z} {ip : List (Addr × Obj)} {x : Str} {c : Addr} (e : z.env.cells.lookup x = some c) : c ∈ fpO z ip :=
  List.mem_cons_of_mem _ (List.mem_append_left _ (List.mem_filterMap.mpr ⟨_, PySem.mem_of_lookup e, e⟩))
theorem Z.Ok.start {z : Z} {s1 s : Shared} {H : Hp} {σ : L2.St} (k : z.Ok) (loc : ∃ m, s1.heap.Ns z.env.locals m ∧ ∀ (i : Nat) (x : Str) (v : V), z.N[i]? = some x → σ[i]? = some (some v) → Vis z.env.scope x → ∃ u, RelV v u ∧ Look z.env s1.heap m x u)
    (cell : ∀ x c, z.env.cells.lookup x = some c → ∃ v, s1.heap.IsCell c v) (len : σ.length = z.N.length) (i : z.In s H)
    (kp : ∀ b ∈ fpO z [], ∀ o, s1.heap.get? b = some o → s.heap.get? b = some o) (nn : ∀ b ∈ fpO z [], H b = none) : Inv (z.ctx s H) [] σ H s where
  ok := k.cxOk i
  os := rfl
  bare := i.e0.bare
  base := by
    refine Un.kept fun b o e => ?_
    exact (of_cut e).2
  loc := by
    obtain ⟨m, hn, hl⟩ := loc
    refine ⟨m, hn.at' fun o e => kp _ List.mem_cons_self o e, fun j x v e1 e2 e3 => ?_⟩
    obtain ⟨u, r, q⟩ := hl j x v e1 e2 e3
    refine ⟨u, r, ?_⟩
    rcases q with q | ⟨q1, c, q2, o, q3, q4⟩
    · exact .inl q
    · exact .inr ⟨q1, c, q2, o, kp c (cell_mem q2) o q3, q4⟩
  cell := fun x c e => by
    obtain ⟨v, o, q3, q4⟩ := cell x c e
    exact ⟨v, o, kp c (cell_mem e) o q3, q4⟩
  free := nn _ List.mem_cons_self
  freeC := fun x c e => nn c (cell_mem e)
  pin := fun p hp => by
    rcases List.mem_append.mp hp with hp | hp
    · exact i.pn p hp
    · cases hp
  hok := i.e0.hok
  len := len
def IpOk (z : Z) (ip : List (Addr × Obj)) : Prop := ∀ q ∈ ip, z.env.locals ≤ q.1 ∧ ∀ p ∈ z.pn, p.1 ≠ q.1
structure Woke (z : Z) (ip : List (Addr × Obj)) (s1 : Shared) (H1 : Hp) (m1 : Ms) (s : Shared) (H : Hp) (hc : CH) (m : Ms) : Prop where
  i : z.In s H
  kp : ∀ b ∈ fpO z ip, ∀ o, s1.heap.get? b = some o → s.heap.get? b = some o
  nn : ∀ b ∈ fpO z ip, H b = none
  stp : Stp H1 m1 H m
  wd : Wd z.K H hc m
def PhiG (z : Z) (U : Array GenState) : List D → Shared → Hp → CH → Ms → End → Shared → Prop
  | [], s0, H0, hc0, m0, e, s' => e = .ret (.ok (.ret .none)) ∧ Pz.Sk U s'.gens ∧ ∃ ip σ H1 m1, Inv (z.ctx s0 H0) ip σ H1 s' ∧ Ex z.K ⟨H0, hc0, m0⟩ H1 hc0 m1
  | d :: ds, s0, H0, hc0, m0, e, s' => ∃ v g l k c p fs, e = .susp v g l k c p fs ∧ e.quiet = true ∧ Pz.Sk U s'.gens ∧ ∃ ip σ H1 m1 vv, Inv (z.ctx s0 H0) ip σ H1 s' ∧ IpOk z ip ∧ Ex z.K ⟨H0, hc0, m0⟩ H1 hc0 m1 ∧ RelV vv v ∧ Rep z.K H1 m1 d vv ∧
      ∀ s H hc m, Woke z ip s' H1 m1 s H hc m → Pz.Sk s'.gens s.gens → Sg (model z.P z.w) z.A (PhiG z U ds s H hc m) c (k (.send .none)) fs s
structure GE where
  nx : List D → List Sl → CH → Prop
  rt : List D → Prop
  bk : List D → List Sl → CH → Prop := fun _ _ _ => False
  ct : List D → List Sl → CH → Prop := fun _ _ _ => False
abbrev CJ := GE → List D → List Sl → CH → Prop
def GA (z : Z) (ip : List (Addr × Obj)) (P : List D → List Sl → CH → Prop) (H : Hp) (m : Ms) (rest : List D) (s0 : Shared) (H0 : Hp) (hc0 : CH) (m0 : Ms) (s' : Shared) : Prop :=
  ∃ σ' H' sc' m', Inv (z.ctx s0 H0) ip σ' H' s' ∧ Rs z.K ⟨H0, hc0, m0⟩ σ' H' sc' hc0 m' ∧ Stp H m H' m' ∧ P rest sc' hc0
def GP (z : Z) (ip : List (Addr × Obj)) (C : GE) (H : Hp) (m : Ms) (f : Flow) (rest : List D) (s0 : Shared) (H0 : Hp) (hc0 : CH) (m0 : Ms) (s' : Shared) : Prop :=
  match f with
  | .next => GA z ip C.nx H m rest s0 H0 hc0 m0 s'
  | .brk => GA z ip C.bk H m rest s0 H0 hc0 m0 s'
  | .cont => GA z ip C.ct H m rest s0 H0 hc0 m0 s'
  | .ret u => u = .none ∧ ∃ σ' H' m', Inv (z.ctx s0 H0) ip σ' H' s' ∧ Ex z.K ⟨H0, hc0, m0⟩ H' hc0 m' ∧ C.rt rest
theorem GA.step {z : Z} {ip : List (Addr × Obj)} {P : List D → List Sl → CH → Prop} {H H1 : Hp} {m m1 : Ms} {rest : List D} {s0 : Shared} {H0 : Hp} {hc0 : CH} {m0 : Ms} {s' : Shared} (st : Stp H m H1 m1) (h : GA z ip P H1 m1 rest s0 H0 hc0 m0 s') : GA z ip P H m rest s0 H0 hc0 m0 s' := by
  obtain ⟨σ', H', sc', m', a, b, c, d⟩ := h
  exact ⟨σ', H', sc', m', a, b, st.trans c, d⟩
theorem GP.step {z : Z} {ip : List (Addr × Obj)} {C : GE} {H H1 : Hp} {m m1 : Ms} {f : Flow} {rest : List D} {s0 : Shared} {H0 : Hp} {hc0 : CH} {m0 : Ms} {s' : Shared} (st : Stp H m H1 m1) (h : GP z ip C H1 m1 f rest s0 H0 hc0 m0 s') : GP z ip C H m f rest s0 H0 hc0 m0 s' := by
  cases f with
  | next => exact GA.step st h
  | brk => exact GA.step st h
  | cont => exact GA.step st h
  | ret u => exact h
section
variable {z : Z} {st : Stmt} {rest body ob : List Stmt} {j j1 j2 : CJ} {c : CSx} {e tg iter : Expr} {ce : CEx} {ct : CTx} {ci : CIx} {g : CGx} {pos yp : Pos}
def FpS (z : Z) (ip : List (Addr × Obj)) (b : Addr) : Prop := b ≠ z.env.locals ∧ b ∉ frs z.outer ∧ z.env.locals ≤ b ∧ (∀ x c, z.env.cells.lookup x = some c → c ≠ b) ∧ ∀ p ∈ z.pn ++ ip, p.1 ≠ b
theorem FpS.of {ip : List (Addr × Obj)} {s0 : Shared} {H0 H : Hp} {b : Addr} (h : FpOk (z.ctx s0 H0) ip H b) : FpS z ip b := by
  obtain ⟨_, h1, h2, h3, h4, h5⟩ := h
  refine ⟨h1, h2, ?_, h4, h5⟩
  rcases h3 with h3 | h3
  · cases h3
  · exact Nat.le_trans (Nat.le_of_eq cut_size.symm) h3
theorem FpS.ok {ip : List (Addr × Obj)} {s0 : Shared} {H0 H : Hp} {b : Addr} (h : FpS z ip b) (n : H b = none) : FpOk (z.ctx s0 H0) ip H b := by
  obtain ⟨h1, h2, h3, h4, h5⟩ := h
  exact ⟨n, h1, h2, .inr (Nat.le_trans (Nat.le_of_eq cut_size) h3), h4, h5⟩
end
end Gn
set_option maxHeartbeats 1000000
namespace Gn
open PySem PySem.Spec PyProof.Rows L2 GenW Mn
def thaw (fp : List Addr) (H : Hp) : Hp := fun b => if b ∈ fp then none else H b
theorem thaw_in {fp : List Addr} {H : Hp} {b : Addr} (h : b ∈ fp) : thaw fp H b = none := by unfold thaw; rw [if_pos h]
theorem thaw_out {fp : List Addr} {H : Hp} {b : Addr} (h : b ∉ fp) : thaw fp H b = H b := by unfold thaw; rw [if_neg h]
structure Odd (u : HO) (b : Addr) : Prop where
  tup : ∀ xs, u ≠ .tup xs
  ftup : ∀ o xs, u ≠ .frz o (.tup xs)
  lst : ∀ xs, u ≠ .lst xs
  dK : ∀ xs, u ≠ .dK xs
  flst : ∀ o xs, u ≠ .frz o (.lst xs)
  own : ∀ o, u ≠ .frz o (.own b)
  code : ∀ q, u ≠ LamX.CodeO b q
  xd : ∀ xs, u ≠ .xd xs
  tbl : ∀ ps, u ≠ .tbl ps
  mu : ¬ IsMut u
def Iced (fp : List Addr) (H : Hp) : Prop := ∀ b ∈ fp, ∀ u, H b = some u → Odd u b
section
variable {fp : List Addr} {K : PySem.W.Frag} {H : Hp} {m : Ms} {hc : CH}
theorem thaw_get (sl : Iced fp H) {p : Addr} {u : HO} (e : H p = some u) (n : Odd u p → False) : thaw fp H p = some u := by
  rw [thaw_out fun z => n (sl p z u e)]
  exact e
theorem thaw_some {p : Addr} {u : HO} (e : thaw fp H p = some u) : H p = some u ∧ p ∉ fp := by
  by_cases z : p ∈ fp
  · rw [thaw_in z] at e; cases e
  · rw [thaw_out z] at e; exact ⟨e, z⟩
theorem sqt_thaw (sl : Iced fp H) {p : Addr} {vs : List V} (h : SqT K H p vs) : SqT K (thaw fp H) p vs := by
  rcases h with (h | ⟨o, h⟩) | h
  · exact .inl (.inl (thaw_get sl h fun z => z.tup _ rfl))
  · exact .inl (.inr ⟨o, thaw_get sl h fun z => z.ftup _ _ rfl⟩)
  · exact .inr h
mutual
theorem Rep.thaw (sl : Iced fp H) : ∀ (d : D) (v : V), Rep K H m d v → Rep K (thaw fp H) m d v
  | .non, v, h => by unfold Rep at h ⊢; exact h
  | .bl _, v, h => by unfold Rep at h ⊢; exact h
  | .int _, v, h => by unfold Rep at h ⊢; exact h
  | .str _, v, h => by unfold Rep at h ⊢; exact h
  | .tup xs, v, h => by
    unfold Rep at h ⊢
    obtain ⟨p, vs, e, q, r⟩ := h
    exact ⟨p, vs, e, sqt_thaw sl q, RepL.thaw sl xs vs r⟩
  | .lst xs, v, h => by
    unfold Rep at h ⊢
    obtain ⟨p, vs, e, n, q, r⟩ := h
    exact ⟨p, vs, e, n, thaw_get sl q (fun z => z.lst _ rfl), RepL.thaw sl xs vs r⟩
  | .ref _, v, h => by unfold Rep at h ⊢; exact h
  | .dct ks ds, v, h => by
    unfold Rep at h ⊢
    obtain ⟨p, vs, e, n, q, l, r⟩ := h
    exact ⟨p, vs, e, n, thaw_get sl q (fun z => z.dK _ rfl), l, RepL.thaw sl ds vs r⟩
  | .frz xs, v, h => by
    unfold Rep at h ⊢
    obtain ⟨p, vs, e, q, r⟩ := h
    refine ⟨p, vs, e, ?_, RepL.thaw sl xs vs r⟩
    rcases q with ⟨o, q⟩ | q
    · exact .inl ⟨o, thaw_get sl q fun z => z.flst _ _ rfl⟩
    · exact .inr q
  | .clo f ws xs, v, h => by
    unfold Rep at h ⊢
    obtain ⟨h1, h2, h3⟩ := h
    refine ⟨h1, ?_, RepL.thaw sl xs ws h3⟩
    rcases h2 with ⟨o, fd, c, e1, e2, e3, e4⟩ | h2
    · exact .inl ⟨o, fd, c, thaw_get sl e1 (fun z => z.own _ rfl), e2, e3, thaw_get sl e4 fun z => z.code _ rfl⟩
    · exact .inr h2
  | .exn a dx ns xs, v, h => by
    unfold Rep at h ⊢
    obtain ⟨e, vs, q, r⟩ := h
    refine ⟨e, vs, ?_, RepL.thaw sl xs vs r⟩
    rcases q with h | ⟨p, fs, e1, e2, e3⟩
    · exact .inl h
    · exact .inr ⟨p, fs, e1, thaw_get sl e2 (fun z => z.xd _ rfl), e3⟩
  | .fn _, v, h => by unfold Rep at h ⊢; exact h
  | .ins c ns xs, v, h => by
    unfold Rep at h ⊢
    obtain ⟨p, dx, vs, e, n, q, l, r⟩ := h
    exact ⟨p, dx, vs, e, n, thaw_get sl q (fun z => z.mu trivial), l, RepL.thaw sl xs vs r⟩
  | .mrk _ _, v, h => by unfold Rep at h; exact h.elim
  | .mrd _ _, v, h => by unfold Rep at h; exact h.elim
  | .dkl ks ds, v, h => by
    unfold Rep at h ⊢
    obtain ⟨p, o, vs, e, n, q, l, r⟩ := h
    exact ⟨p, o, vs, e, n, thaw_get sl q (fun z => z.mu trivial), l, RepL.thaw sl ds vs r⟩
theorem RepL.thaw (sl : Iced fp H) : ∀ (ds : List D) (vs : List V), RepL K H m ds vs → RepL K (thaw fp H) m ds vs
  | [], vs, h => by unfold RepL at h ⊢; exact h
  | d :: ds, vs, h => by
    unfold RepL at h ⊢
    obtain ⟨v, r, e, h1, h2⟩ := h
    exact ⟨v, r, e, Rep.thaw sl d v h1, RepL.thaw sl ds r h2⟩
end
end
section
variable {X : Cx} {pins : List (Addr × Obj)} {σ : L2.St} {H : Hp} {s : Shared} {fp : List Addr}
def _root_.L2.Cx.q (X : Cx) : Cx := { X with xe := fun _ _ => False }
end
end Gn
set_option maxHeartbeats 1000000
namespace Gn
open PySem PySem.Spec PyProof.Rows L2 GenW Mn
def Made (cel : Bool) (P : Program) (w : World) (K : PySem.W.Frag) (mg : Str → Option Value) (base : Heap) (k : Nat) (outer : List Env) (s : Shared) (H : Hp) (m : Ms) (out : List D) (u : Value) (s' : Shared) : Prop :=
  ∃ (a : Addr) (g : Nat) (go : Obj) (env : Env) (N : List Str) (gs : GenState), u = .ref a ∧ env.locals = s.heap.objs.size ∧ s.heap.objs.size < a ∧ s'.heap.get? a = some go ∧ (go.cls = .type "generator" ∧ (∃ nm qn, go.data = .fields #[.int g 0, nm, qn]) ∧ go.slots = #[]) ∧
    s'.gens[g]? = some gs ∧ ¬ Pz.fx gs ∧ ((cel = false → ∀ y, env.cells.lookup y = none) ∧ ∀ o, s'.heap.get? env.locals = some o → ∀ v, o.data ≠ .cell v) ∧ s'.os = s.os ∧ AllBare s'.gens ∧ (∀ b o, s.heap.get? b = some o → s'.heap.get? b = some o) ∧ (∀ b ∈ env.locals :: (env.cells.filterMap (fun p => env.cells.lookup p.1)), s.heap.objs.size ≤ b ∧ b ≠ a ∧ ∃ o, s'.heap.get? b = some o) ∧
    ∀ (A : Around) (pn : List (Addr × Obj)), RG k A → A.frames = some outer → Z.Ok ⟨P, w, K, mg, base, A, outer, env, N, pn⟩ ∧
      ∀ U s2 H2 hc2 m2, Woke ⟨P, w, K, mg, base, A, outer, env, N, pn⟩ [] s' H m s2 H2 hc2 m2 → Pz.Sk U s2.gens → Wk (model P w) A (PhiG ⟨P, w, K, mg, base, A, outer, env, N, pn⟩ U out s2 H2 hc2 m2) gs s2
abbrev SpG := List D → List D → Prop
structure GFn (cel : Bool) (P : Program) (w : World) (K : PySem.W.Frag) (mg : Str → Option Value) (base : Heap) (k : Nat) (f : Addr) (fd : FuncData) (ps : List Str) (sp : SpG) : Prop where
  len : ∀ ds out, sp ds out → ds.length = ps.length
  run : ∀ (A : Around) (outer : List Env) (s : Shared) (H : Hp) (hc : CH) (m : Ms) (args : Args) (us : List Value) (vs : List V) (ds out : List D), RG k A → Env0 P w K mg base A outer s H → BindsTo s fd args (ps.zip us) → Vals vs us → Wd K H hc m → RepL K H m ds vs → sp ds out →
    codeAny (model P w) A (.call (.ref f) args) (fun r s' => ∃ u, r = .ok (.ret u) ∧ Made cel P w K mg base k outer s H m out u s') s
def GnAt (P : Program) (w : World) (K : PySem.W.Frag) (mg : Str → Option Value) (base : Heap) (k : Nat) (x : Str) (ps : List Str) (sp : SpG) : Prop :=
  ∃ (cel : Bool) (f : Addr) (fd : FuncData), GFn cel P w K mg base k f fd ps sp ∧ mg x = some (.ref f) ∧ PySem.W.keepIn K (.ref f) = true ∧ Binds K fd ps []
def GnC (P : Program) (w : World) (K : PySem.W.Frag) (mg : Str → Option Value) (base : Heap) (k : Nat) (x : Str) (ps : List Str) (sp : SpG) : Prop :=
  ∃ (f : Addr) (fd : FuncData), GFn false P w K mg base k f fd ps sp ∧ mg x = some (.ref f) ∧ PySem.W.keepIn K (.ref f) = true ∧ Binds K fd ps []
theorem GnC.at {P : Program} {w : World} {K : PySem.W.Frag} {mg : Str → Option Value} {base : Heap} {k : Nat} {x : Str} {ps : List Str} {sp : SpG} (h : GnC P w K mg base k x ps sp) : GnAt P w K mg base k x ps sp := ⟨false, h⟩
theorem Made.mono {cel : Bool} {P : Program} {w : World} {K : PySem.W.Frag} {mg : Str → Option Value} {base : Heap} {k l : Nat} {outer : List Env} {s : Shared} {H : Hp} {m : Ms} {out : List D} {u : Value} {s' : Shared} (h : k ≤ l) (x : Made cel P w K mg base k outer s H m out u s') : Made cel P w K mg base l outer s H m out u s' := by
  obtain ⟨a, g, go, env, N, gs, x1, x2, x3, x4, x5, x6, x7, x8, x9, x10, x11, x12, x13⟩ := x
  exact ⟨a, g, go, env, N, gs, x1, x2, x3, x4, x5, x6, x7, x8, x9, x10, x11, x12, fun A pn hr => x13 A pn (hr.mono h)⟩
theorem GnAt.mono {P : Program} {w : World} {K : PySem.W.Frag} {mg : Str → Option Value} {base : Heap} {j k : Nat} {x : Str} {ps : List Str} {sp : SpG} (h : GnAt P w K mg base j x ps sp) (l : j ≤ k) : GnAt P w K mg base k x ps sp := by
  obtain ⟨cel, f, fd, a, b⟩ := h
  exact ⟨cel, f, fd, ⟨a.len, fun A outer s H hc m args us vs ds out hr e0 hb r wd rl hs => codeAny_mono (a.run A outer s H hc m args us vs ds out (hr.mono l) e0 hb r wd rl hs) fun r s' ⟨u, e, q⟩ => ⟨u, e, q.mono l⟩⟩, b⟩
end Gn
set_option maxHeartbeats 1000000
namespace Gn
open PySem PySem.Spec PyProof.Rows L2 GenW Mn
section
variable {X : Cx} {W : WX} {pins : List (Addr × Obj)} {σ : L2.St} {H H1 : Hp} {s s1 : Shared}
end
section
variable {X : Cx} {W : WX} {tg e : Expr} {es : List Expr} {body : List Stmt} {ca : CAx} {g : CGx} {c : CSx} {pos pos2 p : Pos}
end
end Gn
namespace Gn
open PySem L2 Mn
section
variable {c : CSx} {j j1 j2 : CJ} {C : GE} {rest : List D} {sc : List Sl} {hc : CH} {ce : CEx} {t : CTx} {ci : CIx} {g : CGx} {ca : CAx} {sp : SpG}
end
end Gn
set_option maxHeartbeats 1000000
namespace Gn
open PySem PySem.Spec PyProof.Rows L2 GenW Mn
section
variable {K : PySem.W.Frag} {H H' H0 H1 H2 : Hp} {m m' m0 m1 m2 : Ms} {hc : CH} {p : Addr}
def StpP (p : Addr) (H : Hp) (m : Ms) (H' : Hp) (m' : Ms) : Prop := Stp (thaw [p] H) m H' m'
theorem StpP.of (s : Stp H m H' m') : StpP p H m H' m' := by
  refine ⟨fun q o e t n => s.keep q o (thaw_some e).1 t n, fun q e => ?_, fun q o e => s.live q o (thaw_some e).1⟩
  rcases s.grow q e with y | y
  · exact .inl y
  · refine .inr ?_
    by_cases z : q ∈ [p]
    · exact thaw_in z
    · rw [thaw_out z]; exact y
theorem StpP.trans (a : StpP p H0 m0 H1 m1) (b : StpP p H1 m1 H2 m2) : StpP p H0 m0 H2 m2 := by
  refine ⟨fun q o e t n => ?_, fun q e => ?_, fun q o e => ?_⟩
  · have n' : ¬ m1 q := fun z => by
      rcases a.grow q z with y | y
      · exact n y
      · rw [e] at y; cases y
    exact b.keep q o (by rw [thaw_out (thaw_some e).2]; exact a.keep q o e t n) t n'
  · rcases b.grow q e with y | y
    · exact a.grow q y
    · by_cases z : q ∈ [p]
      · exact .inr (thaw_in z)
      · rw [thaw_out z] at y
        cases e0 : thaw [p] H0 q with
        | none => exact .inr rfl
        | some o => exact absurd y (a.live q o e0)
  · have l := a.live q o e
    cases e1 : H1 q with
    | none => exact absurd e1 l
    | some u => exact b.live q u (by rw [thaw_out (thaw_some e).2]; exact e1)
end
section
variable {P : Program} {w : World} {A : Around} {E : Value → Shared → Prop} {s : Shared}
end
section
variable {X : Cx} {a b : Expr} {ta tb : TE} {pos : Pos}
structure SE where
  nx : (Int → Bool) → Nat → List Sl → CH → Prop
abbrev CSS := SE → (Int → Bool) → Nat → List Sl → CH → Prop
def SG (X : Cx) (i : Nat) (p : Addr) (en : En) (H0 : Hp) (m0 : Ms) (P : (Int → Bool) → Nat → List Sl → CH → Prop) (Q : L2.St → Hp → Prop) : Prop :=
  ∀ S n sc hc, P S n sc hc → ∀ σ H m, Rs X.K en σ H sc hc m → look sc i = some (.ref p) → H p = some (SetO X.w p S n) → StpP p H0 m0 H m → Q σ H
section
variable {W : WX} {i : Nat} {e tg : Expr} {ce : CEx} {ca : CAx} {g : CGx} {c : CSS} {st : Stmt} {apos cpos : Pos} {x : Str}
theorem SG.step {i : Nat} {p : Addr} {en : En} {H0 H1 : Hp} {m0 m1 : Ms} {P : (Int → Bool) → Nat → List Sl → CH → Prop} {Q : L2.St → Hp → Prop} (g : SG X i p en H0 m0 P Q) (s : StpP p H0 m0 H1 m1) : SG X i p en H1 m1 P Q :=
  fun S n sc hc q σ H m r l h st => g S n sc hc q σ H m r l h (s.trans st)
theorem hc_none {K : PySem.W.Frag} {en : En} {σ : L2.St} {H : Hp} {sc : List Sl} {hc : CH} {m : Ms} {p : Addr} {w : World} {S : Int → Bool} {n : Nat} (r : Rs K en σ H sc hc m) (h : H p = some (SetO w p S n)) : hc p = none ∧ ¬ m p := by
  have nm : ¬ m p := fun z => by
    obtain ⟨vs, e, im⟩ := r.mu p z
    rw [h] at e
    unfold SetO at e
    cases e
    exact im
  refine ⟨?_, nm⟩
  cases q : hc p with
  | none => rfl
  | some ds => exact absurd (r.hm p ds q) nm
end
end
section
variable {i : Nat} {c1 c2 ce : CEx} {ca : CAx} {g : CGx} {cs c : CSS} {C : CEnds} {SC : SE} {sc : List Sl} {hc : CH} {S : Int → Bool} {n : Nat}
end
end Gn
set_option maxHeartbeats 2000000
namespace Mn
open PySem PySem.Spec PyProof.Rows L2 NdefX
abbrev SuT := Addr → Value → Option Addr → TS
section
variable {X : Cx} {nm : Str} {j : Nat} {bod : List Stmt} {h1 : ExceptHandler} {hs : List ExceptHandler} {L : List (Value × SuT)} {p0 : Pos} {tb : WX → TS} {Wo : WX}
end
abbrev CCl := List (Str × Bool) × (Addr → Str → Option Addr → CSx)
section
variable {X : Cx} {W : WX} {bod : List Stmt} {h1 : ExceptHandler} {hs : List ExceptHandler} {nm : Str} {i l : Nat} {cb : CSx} {cl : List CCl} {p0 : Pos}
end
end Mn
namespace Mn
open PySem PySem.Spec PyProof.Rows L2
section
variable {X : Cx}
end
end Mn
namespace Mn
open PySem PySem.Spec PyProof.Rows L2
def cSrp (ca cb : CEx) : CEx := fun E sc hc P => ca E sc hc fun d hc1 => match d with
  | .str a => cb E sc hc1 fun d2 hc2 => match d2 with
    | .str b => a.length ≤ sizeLine ∧ P (.str (Txt.stripChars a b)) hc2
    | _ => False
  | _ => False
section
variable {X : Cx} {W : WX} {e e2 : Expr} {ca cb : CEx} {apos pos : Pos}
end
theorem e_Srp {ca cb : CEx} {E : XP} {sc : List Sl} {hc : CH} {P : D → CH → Prop} : cSrp ca cb E sc hc P = ca E sc hc fun d hc1 => match d with
  | .str a => cb E sc hc1 fun d2 hc2 => match d2 with
    | .str b => a.length ≤ sizeLine ∧ P (.str (Txt.stripChars a b)) hc2
    | _ => False
  | _ => False := rfl
def cLj (ca cb cc : CEx) : CEx := fun E sc hc P => ca E sc hc fun d hc1 => match d with
  | .str a => cb E sc hc1 fun d2 hc2 => match d2 with
    | .int i => cc E sc hc2 fun d3 hc3 => match d3 with
      | .str f => PadOk i = true ∧ f.length = 1 ∧ P (.str (Txt.ljustF a i (f.cps.getD 0 0))) hc3
      | _ => False
    | _ => False
  | _ => False
section
variable {X : Cx} {W : WX} {e e2 e3 : Expr} {ca cb cc : CEx} {apos pos : Pos}
end
theorem e_Lj {ca cb cc : CEx} {E : XP} {sc : List Sl} {hc : CH} {P : D → CH → Prop} : cLj ca cb cc E sc hc P = ca E sc hc fun d hc1 => match d with
  | .str a => cb E sc hc1 fun d2 hc2 => match d2 with
    | .int i => cc E sc hc2 fun d3 hc3 => match d3 with
      | .str f => PadOk i = true ∧ f.length = 1 ∧ P (.str (Txt.ljustF a i (f.cps.getD 0 0))) hc3
      | _ => False
    | _ => False
  | _ => False := rfl
end Mn
namespace Mn
open PySem PySem.Spec PyProof.Rows L2
section
variable {X : Cx} {W : WX} {e : Expr} {ce : CEx} {x : Str} {kvs : List (Str × D)} {pos p2 : Pos}
end
end Mn
set_option maxHeartbeats 4000000
namespace Mn
open PySem PySem.Spec PyProof.Rows L2 NdefX
inductive ClE (X : Cx) : Expr → (Value → Option Bool) → Prop
  | one {z : Str} {c : Value} {p : Pos} (n : Names X z c) : ClE X (.Name z p) (fun cls => PySem.W.exmOne X.K cls c)
  | two {z1 z2 : Str} {c1 c2 : Value} {p1 p2 tp : Pos} {kk : Nat} (n1 : Names X z1 c1) (n2 : Names X z2 c2) : ClE X (.Tuple [.Name z1 p1, .Name z2 p2] kk tp) (fun cls => PySem.W.exmAny X.K cls [c1, c2])
  | three {z1 z2 z3 : Str} {c1 c2 c3 : Value} {p1 p2 p3 tp : Pos} {kk : Nat} (n1 : Names X z1 c1) (n2 : Names X z2 c2) (n3 : Names X z3 c3) : ClE X (.Tuple [.Name z1 p1, .Name z2 p2, .Name z3 p3] kk tp) (fun cls => PySem.W.exmAny X.K cls [c1, c2, c3])
section
variable {X : Cx} {x : Addr} {ox : Obj} {pn pins : List (Addr × Obj)} {σ : L2.St} {H : Hp} {s : Shared}
theorem name_at (S : Inv (X.suite x ((x, ox) :: pn)) pins σ H s) {z : Str} {c : Value} {p : Pos} (n : Names X z c) {Q : Value → Shared → Prop} {E : Value → Shared → Prop} (q : Q c s) : wpAny (model X.prog X.w) (X.A.mark (some (.ref x))) (eval (.Name z p) X.env) Q E s := by
  obtain ⟨g1, g2, g3 | ⟨g3, g4, g5⟩⟩ := n
  · exact ld_glob (X := X.suite x ((x, ox) :: pn)) S g1 g3 q g2
  · exact ld_blt (X := X.suite x ((x, ox) :: pn)) S g1 g3 g4 q g5 g2
theorem ClE.run {ce : Expr} {f : Value → Option Bool} (h : ClE X ce f) (S : Inv (X.suite x ((x, ox) :: pn)) pins σ H s) (KI : X.K.In s.heap) {cls : Value} {yes : Bool} (LT : PySem.W.Looks (model X.prog X.w) s.heap (typeOf (.ref x)) cls) (e : f cls = some yes)
    {Q : Bool → Shared → Prop} {E : Value → Shared → Prop} (q : ∀ h', (∀ b o, s.heap.get? b = some o → h'.get? b = some o) → Q yes { s with heap := h' }) :
    wpAny (model X.prog X.w) (X.A.mark (some (.ref x))) (eval ce X.env) (fun c s1 => wpAny (model X.prog X.w) (X.A.mark (some (.ref x))) (excMatches (.ref x) c) Q E s1) E s := by
  cases h with
  | one n => exact name_at S n ((PySem.W.exm_one KI LT e).here (q s.heap fun _ _ z => z))
  | @two z1 z2 c1 c2 p1 p2 tp kk n1 n2 =>
    refine wpAny_Tuple ?_
    refine wpAny_items_cons (name_at S n1 ?_)
    refine wpAny_items_cons (name_at S n2 ?_)
    refine wpAny_items_nil ⟨by size_fits, ?_⟩
    have kp : ∀ q o, s.heap.get? q = some o → (s.heap.push { cls := .type "tuple", data := .seq [c1, c2].toArray }).get? q = some o := fun _ _ z => Heap.get?_push_of_some _ z
    exact (PySem.W.exm_tup2 (KI.keeps kp) (LT.keeps kp) (Heap.get?_push_size s.heap rfl) e).here (q _ kp)
  | @three z1 z2 z3 c1 c2 c3 p1 p2 p3 tp kk n1 n2 n3 =>
    refine wpAny_Tuple ?_
    refine wpAny_items_cons (name_at S n1 ?_)
    refine wpAny_items_cons (name_at S n2 ?_)
    refine wpAny_items_cons (name_at S n3 ?_)
    refine wpAny_items_nil ⟨by size_fits, ?_⟩
    have kp : ∀ q o, s.heap.get? q = some o → (s.heap.push { cls := .type "tuple", data := .seq [c1, c2, c3].toArray }).get? q = some o := fun _ _ z => Heap.get?_push_of_some _ z
    exact (PySem.W.exm_tup3 (KI.keeps kp) (LT.keeps kp) (Heap.get?_push_size s.heap rfl) e).here (q _ kp)
end
section
variable {X : Cx} {bod : List Stmt} {h1 : ExceptHandler} {hs : List ExceptHandler} {L : List (Option Nat × (Value → Option Bool) × SuT)} {p0 : Pos} {tb : WX → TS} {Wo : WX}
end
inductive CClT where
  | as (i : Nat) (ct : List (Str × Bool)) (cs : Addr → Str → Option Addr → CSx)
  | no (ct : List (Str × Bool)) (cs : Addr → Str → Option Addr → CSx)
section
variable {X : Cx} {W : WX} {bod : List Stmt} {h1 : ExceptHandler} {hs : List ExceptHandler} {l : Nat} {cb : CSx} {cl : List CClT} {p0 : Pos}
end
section
variable {X : Cx} {z z1 z2 z3 : Str} {ct : List (Str × Bool)} {p p1 p2 p3 tp : Pos} {kk : Nat}
end
end Mn
set_option maxHeartbeats 4000000
namespace Mn
open PySem PySem.Spec PyProof.Rows L2
section
variable {Y : Cx}
end
section
variable {X : Cx} {a : Addr} {oe : Obj} {y n : Str} {cls : Value} {d : Option Addr} {pn : List (Addr × Obj)} {np p1 tp pos : Pos} {i kk : Nat} {tb : List (Str × Bool)} {es : List Expr}
end
def cCtB (ca cb : CEx) : CEx := fun E sc hc P => ca E sc hc fun d hc1 => match d with
  | .lst ds => cb E sc hc1 fun d2 hc2 => match d2 with
    | .bl k => ∃ bs : List Bool, ds = bs.map D.bl ∧ P (.int (bs.count k : Nat)) hc2
    | _ => False
  | _ => False
section
variable {X : Cx} {W : WX} {e e2 : Expr} {ca cb : CEx} {apos pos : Pos}
end
theorem e_CtB {ca cb : CEx} {E : XP} {sc : List Sl} {hc : CH} {P : D → CH → Prop} : cCtB ca cb E sc hc P = ca E sc hc fun d hc1 => match d with
  | .lst ds => cb E sc hc1 fun d2 hc2 => match d2 with
    | .bl k => ∃ bs : List Bool, ds = bs.map D.bl ∧ P (.int (bs.count k : Nat)) hc2
    | _ => False
  | _ => False := rfl
end Mn
set_option maxHeartbeats 4000000
namespace Mn
open PySem PySem.Spec PyProof.Rows L2
theorem noMk_ints : ∀ ns : List Int, noMk (ns.map D.int) = true
  | [] => rfl
  | _ :: _ => rfl
theorem oth_hL {hc : CH} {a : Addr} {ds : List D} {F : List D → Prop} (h : hc a = some ds) (q : F ds) (n : noMk ds = true := by first | rfl | exact noMk_ints _) : oth (hL hc a) F := oth_some (hL_of h n) q
section
variable {X : Cx} {W : WX} {o e value : Expr} {f : Str} {cs : List Str} {co ce : CEx} {pos pos' : Pos}
end
section
variable {P : Program} {w : World} {K : PySem.W.Frag} {mg : Str → Option Value} {base : Heap} {l k : Nat} {c m : Str} {ps : List Str} {sp : Spc} {tb : List (Str × Spc)}
end
section
variable {X : Cx} {W : WX} {l : Nat} {m : Str} {o e : Expr} {es : List Expr} {ta : TE} {t : L2.TA} {apos pos : Pos}
end
section
variable {X : Cx} {W : WX} {l : Nat} {m : Str} {tb : List (Str × Spc)} {o e : Expr} {es : List Expr} {co : CEx} {ca : CAx} {apos pos : Pos}
end
section
variable {X : Cx} {W : WX} {k : Nat} {f C : Addr} {fd : FuncData} {ps : List Str} {sp : Sp} {x : Str} {p pos : Pos} {e : Expr} {es : List Expr} {t : L2.TA}
end
def delc (hc : CH) (x : Addr) : CH := fun q => if q = x then none else hc q
section
variable {X : Cx} {W : WX} {k l : Nat} {c : Str} {ps : List Str} {sp : Spc} {p pos : Pos} {e : Expr} {es : List Expr} {ca : CAx}
end
end Mn
namespace Mn
open PySem PySem.Spec PyProof.Rows L2
theorem RG.units1 {k : Nat} {A : Around} (x : RG k A) : A.units + 1 < cLine := by
  have := x.units
  omega
structure PPt (X : Cx) (pos : Pos) (keys : List (Option Expr)) (values : List Expr) (t : L2.St → Hp → (List (V × V) → Hp → Prop) → Prop) : Prop where
  run : ∀ (pins : List (Addr × Obj)) (s : Shared) (σ : L2.St) (H : Hp) (Q : List (V × V) → Hp → Prop), Inv X pins σ H s → t σ H Q →
    wpAny (model X.prog X.w) X.A (evalPairs (pairTrees keys values X.env pos)) (fun vs s' => ∃ ps H', Inv X pins σ H' s' ∧ VV ps vs ∧ Q ps H') X.xe s
def tDispU (t : L2.St → Hp → (List (V × V) → Hp → Prop) → Prop) : TE := fun σ H Q => t σ H fun ps H2 => ∃ kvs : List (Key × V), ps = kvs.map (fun kv => (kV kv.1, kv.2)) ∧ kvs.length ≤ 15 ∧ ∀ p, H2 p = none → Q (.ref p) (upd H2 p (.dK (mergeK [] kvs)))
theorem pe_dispU {X : Cx} {pos : Pos} {keys : List (Option Expr)} {values : List Expr} {t : L2.St → Hp → (List (V × V) → Hp → Prop) → Prop} (h : PPt X pos keys values t) (hall : keys.all (·.isSome) = true) (hl : keys.length = values.length) (h0 : keys ≠ [])
    (h15 : keys.length ≤ 15) : PE X (.Dict keys values pos) (tDispU t) := by
  refine ⟨fun pins s σ H Q I q => ?_⟩
  have hn := I.hok.fresh (Nat.le_refl s.heap.objs.size)
  have ho : (s.heap.push { cls := .type "dict", data := .dict #[] }).get? s.heap.objs.size = some { cls := .type "dict", data := .dict #[] } := Heap.get?_push_size _ rfl
  have I0 : Inv X pins σ H { s with heap := s.heap.push { cls := .type "dict", data := .dict #[] } } := I.kept (t' := s.toks) fun _ _ q => Heap.get?_push_of_some _ q
  have I1 : Inv X ((s.heap.objs.size, { cls := .type "dict", data := .dict #[] }) :: pins) σ H { s with heap := s.heap.push { cls := .type "dict", data := .dict #[] } } := I0.pins_of fun p hp => by
    rcases List.mem_cons.mp hp with hp | hp
    · rw [hp]
      exact ⟨ho, hn, Nat.ne_of_gt I.lt, I.nofs (Nat.le_refl _), fun v q => by cases q⟩
    · exact I0.pin p (List.mem_append_right _ hp)
  refine wpAny_Dict_walk (knd := mixKind X.prog X.w) hall hl h0 h15 (thn (h.run _ _ σ _ _ I1 q) fun ws s2 ⟨ps, H2, I2, rel, kvs, ep, lk, q2⟩ => ?_)
  subst ep
  obtain ⟨rs, c, rk⟩ := carries_of (P := X.prog) (w := X.w) rel
  obtain ⟨g1, g2, _⟩ := I2.pin (s.heap.objs.size, { cls := .type "dict", data := .dict #[] }) (List.mem_append_right _ List.mem_cons_self)
  have dd : s2.heap.DictOf (mixKind X.prog X.w) s.heap.objs.size [] := (Heap.DictOf.new s.heap).at fun o e => by
    rw [ho] at e; cases e; exact g1
  have I3 : Inv X pins σ H2 s2 := I2.pins_of fun p hp => I2.pin p (List.mem_append_right _ (List.mem_cons_of_mem _ hp))
  refine ⟨rs, c, dd, fun h' dd' hs => ⟨.ref s.heap.objs.size, _, ?_, rfl, q2 _ g2⟩⟩
  have hz : (mergeK [] kvs).length ≤ sizeLine := by
    have h1 := length_mergeK kvs []
    rw [List.length_nil] at h1
    rw [sizeLine_eq]; omega
  exact I3.take (fun b ob hb e => (hs.2 b hb).trans e) (I.fpOk (Nat.le_refl _) g2) (dk_new hz (beq_eq_false_iff_ne.mpr (Ne.symm (Nat.ne_of_lt I.big))) (rk.merge .nil) dd')
def LP (X : Cx) (W : WX) (ks : List Str) (c : CAx) : L2.St → Hp → (List (V × V) → Hp → Prop) → Prop := fun σ H Q => ∃ en sc hc m E P, Rs X.K en σ H sc hc m ∧ c E sc hc P ∧ XOk X W en E ∧
  ∀ ds hc', P ds hc' → ∀ vs H' m', Ex X.K ⟨H, hc, m⟩ H' hc' m' → RepL X.K H' m' ds vs → Q ((ks.map V.str).zip vs) H'
structure CPs (X : Cx) (W : WX) (pos : Pos) (keys : List (Option Expr)) (values : List Expr) (ks : List Str) (c : CAx) : Prop where
  p : PPt X pos keys values (LP X W ks c)
section
variable {X : Cx} {W : WX} {pos : Pos}
theorem cps_nil : CPs X W pos [] [] [] cNil := ⟨⟨fun pins s σ H Q I ⟨en, sc, hc, m, E, P, r, k, xo, fin⟩ => pairTrees_nil_walk ⟨[], H, I, .nil, fin _ hc k _ H m (.refl r.toWd) RepL.nil⟩⟩⟩
theorem cps_cons {z : Str} {j : Nat} {kp : Pos} {e : Expr} {keys : List (Option Expr)} {values : List Expr} {ks : List Str} {ca : CEx} {c : CAx} (ha : CE X W e ca) (hr : CPs X W pos keys values ks c) :
    CPs X W pos (some (.Constant (.str z) j kp) :: keys) (e :: values) (z :: ks) (cCons ca c) :=
  ⟨⟨fun pins s σ H Q I ⟨en, sc, hc, m, E, P, r, k, xo, fin⟩ =>
    pairTrees_cons_walk (thn (pe_str.run pins s σ H (fun v H' => v = V.str z ∧ H' = H) I ⟨rfl, rfl⟩) fun u s1 ⟨x, H1, I1, rx, ex, eH⟩ => by
      subst eH
      subst ex
      exact thn (ha.p.run pins s1 σ H1 _ I1 ⟨en, sc, hc, m, E, _, r, k, xo, fun d hc1 hp v H1 m1 x1 q1 =>
        (⟨en, sc, hc1, m1, E, _, r.call x1, hp, xo, fun ds hc2 hp2 vs H2 m2 x2 q2 => fin _ hc2 hp2 (v :: vs) H2 m2 (x1.trans x2) (RepL.cons (Rep.mono x1.mu x2.stp _ _ q1) q2)⟩ : LP X W ks c σ H1 (fun ps H2 => Q ((V.str z, v) :: ps) H2))⟩)
        fun w2 s2 ⟨y, H2, I2, ry, q2⟩ => thn (hr.p.run pins s2 σ H2 (fun ps H2 => Q ((V.str z, y) :: ps) H2) I2 q2) fun ws s3 ⟨ps, H3, I3, rel, q3⟩ => ⟨(V.str z, y) :: ps, H3, I3, .cons ⟨rx, ry⟩ rel, q3⟩)⟩⟩
end
theorem mergeK_nd : ∀ (more acc : List (Key × V)), ((acc ++ more).map (·.1)).Nodup → mergeK acc more = acc ++ more
  | [], acc, _ => by rw [List.append_nil]; rfl
  | p :: more, acc, nd => by
    have e : putK acc p.1 p.2 = acc ++ [p] := by
      unfold putK
      rw [if_neg]
      intro h
      obtain ⟨q, hq, eq⟩ := List.any_eq_true.mp h
      have eq := of_decide_eq_true eq
      rw [List.map_append, List.nodup_append] at nd
      exact nd.2.2 q.1 (List.mem_map_of_mem hq) p.1 (by rw [List.map_cons]; exact .head _) eq
    show mergeK (putK acc p.1 p.2) more = _
    rw [e, mergeK_nd more _ (by rw [List.append_assoc]; exact nd), List.append_assoc]
    rfl
theorem val_zip {x : Str} : ∀ (ks : List Str) (vs : List V), valV ((ks.map fun k => (Sum.inr k : Key)).zip vs) (Sum.inr x : Key) = ((ks.zip vs).lookup x)
  | [], vs => by simp [valV]
  | k :: ks, [] => by simp [valV]
  | k :: ks, v :: vs => by
    rw [List.map_cons, List.zip_cons_cons, List.zip_cons_cons, List.lookup_cons]
    by_cases z : x = k
    · subst z
      rw [valV_pos rfl]
      simp
    · rw [valV_neg (fun e => z (by cases e; rfl)), val_zip ks vs]
      rw [show (x == k) = false from beq_eq_false_iff_ne.mpr z]
theorem look_rep {K : PySem.W.Frag} {H : Hp} {m : Ms} {x : Str} : ∀ {ks : List Str} {ds : List D} {vs : List V}, RepL K H m ds vs → (∀ d, (ks.zip ds).lookup x = some d → ∃ v, (ks.zip vs).lookup x = some v ∧ Rep K H m d v) ∧ ((ks.zip ds).lookup x = none → ds.length = vs.length → (ks.zip vs).lookup x = none)
  | [], ds, vs, _ => ⟨fun d e => by simp at e, fun _ _ => by simp⟩
  | k :: ks, [], vs, r => by
    unfold RepL at r
    subst r
    exact ⟨fun d e => by simp at e, fun _ _ => by simp⟩
  | k :: ks, d :: ds, vs, r => by
    unfold RepL at r
    obtain ⟨v, r', rfl, q1, q2⟩ := r
    obtain ⟨i1, i2⟩ := look_rep (ks := ks) (x := x) q2
    rw [List.zip_cons_cons, List.zip_cons_cons, List.lookup_cons, List.lookup_cons]
    cases e : x == k with
    | true => exact ⟨fun d' e' => by cases e'; exact ⟨v, rfl, q1⟩, fun z => by cases z⟩
    | false => exact ⟨fun d' e' => i1 d' e', fun z zl => i2 z (by simpa using zl)⟩
def dGet (ks : List Str) (ds : List D) (d z : D) (P : D → CH → Prop) (hc : CH) : Prop := match d with
  | .str x => ds.length = ks.length ∧ P (((ks.zip ds).lookup x).getD z) hc
  | _ => False
def dSub (ks : List Str) (ds : List D) (d : D) (P : D → CH → Prop) (hc : CH) : Prop := match d with
  | .str x => ds.length = ks.length ∧ (match (ks.zip ds).lookup x with
    | some y => P y hc
    | none => False)
  | _ => False
def cDGet (ks : List Str) (cvs : CAx) (cx cz : CEx) : CEx := fun E sc hc P => cvs E sc hc fun ds hc1 => cx E sc hc1 fun d hc2 => cz E sc hc2 fun z hc3 => dGet ks ds d z P hc3
def cDSub (ks : List Str) (cvs : CAx) (cx : CEx) : CEx := fun E sc hc P => cvs E sc hc fun ds hc1 => cx E sc hc1 fun d hc2 => dSub ks ds d P hc2
theorem kvs_eq (ks : List Str) (vs : List V) : (ks.map V.str).zip vs = ((ks.map fun k => (Sum.inr k : Key)).zip vs).map fun kv => (kV kv.1, kv.2) := by
  induction ks generalizing vs with
  | nil => rfl
  | cons k ks ih =>
    cases vs with
    | nil => rfl
    | cons v vs =>
      rw [List.map_cons, List.zip_cons_cons, ih, List.map_cons, List.zip_cons_cons, List.map_cons]
      rfl
theorem keys_nd {ks : List Str} (nd : ks.Nodup) (vs : List V) : ((((ks.map fun k => (Sum.inr k : Key)).zip vs)).map (·.1)).Nodup := by
  have s : ((((ks.map fun k => (Sum.inr k : Key)).zip vs)).map (·.1)).Sublist (ks.map fun k => (Sum.inr k : Key)) := by
    induction ks generalizing vs with
    | nil => exact List.Sublist.slnil
    | cons k ks ih =>
      cases vs with
      | nil => exact List.nil_sublist _
      | cons v vs => exact List.Sublist.cons₂ _ (ih (List.nodup_cons.mp nd).2 vs)
  refine s.nodup ?_
  exact List.pairwise_map.mpr (nd.imp fun h e => h (by cases e; rfl))
section
variable {X : Cx} {W : WX} {pos dpos apos : Pos} {keys : List (Option Expr)} {values : List Expr} {ks : List Str} {e f : Expr} {cvs : CAx} {cx cz : CEx}
theorem ce_dsub {i : Expr} (hu : X.A.units + 1 < cLine) (hd : CPs X W dpos keys values ks cvs) (hx : CE X W i cx) (nd : ks.Nodup := by decide) (l15 : ks.length ≤ 15 := by decide) (hall : keys.all (·.isSome) = true := by rfl) (hl : keys.length = values.length := by rfl) (h0 : keys ≠ [] := by decide) (h15 : keys.length ≤ 15 := by decide) (hs : NoSl i := by exact fun _ _ => rfl) :
    CE X W (.Subscript (.Dict keys values dpos) i pos) (cDSub ks cvs cx) :=
  ⟨pe_wk (pe_dget hu (pe_dispU hd.p hall hl h0 h15) hx.p hs) fun σ H Q ⟨en, sc, hc, m, E, P, r, k, xo, fin⟩ =>
    ⟨en, sc, hc, m, E, _, r, k, xo, fun ds hc1 hp vs H1 m1 x1 q1 => ⟨_, kvs_eq ks vs, by rw [List.length_zip, List.length_map]; exact Nat.le_trans (Nat.min_le_left _ _) l15, fun p np => by
      have sm := same_upd (o := .dK (mergeK [] ((ks.map fun k => (Sum.inr k : Key)).zip vs))) np
      have x2 := Ex.same x1.toWd sm
      refine ⟨en, sc, hc1, m1, E, _, (r.call x1).call x2, hp, xo, fun d hc2 hp2 v H2 m2 x3 q2 => ?_⟩
      have x12 := x2.trans x3
      have hp2 : dSub ks ds d P hc2 := hp2
      unfold dSub at hp2
      cases d <;> try exact hp2.elim
      · rename_i x _
        obtain ⟨lk, hp2⟩ := hp2
        split at hp2
        · rename_i y ey
          unfold Rep at q2
          obtain ⟨w, ew, rw'⟩ := (look_rep q1).1 y ey
          have hpd : H2 p = some (.dK (mergeK [] ((ks.map fun k => (Sum.inr k : Key)).zip vs))) := x3.stp.keep p _ upd_same trivial fun mp => by
            obtain ⟨us, z, _⟩ := x1.mu p mp
            rw [np] at z; cases z
          refine ⟨p, w, rfl, ?_, fin _ hc2 hp2 w H2 m2 (x1.trans x12) (Rep.mono x1.mu x12.stp _ _ rw')⟩
          have g := DGet.k (k := (Sum.inr x : Key)) hpd
          rw [mergeK_nd _ [] (by rw [List.nil_append]; exact keys_nd nd vs), List.nil_append, val_zip, ew] at g
          rw [q2]
          exact g
        · exact hp2.elim⟩⟩⟩
theorem ce_dget2 (hu : X.A.units + 1 < cLine) (hd : CPs X W dpos keys values ks cvs) (hx : CE X W e cx) (hz : CE X W f cz) (nd : ks.Nodup := by decide) (l15 : ks.length ≤ 15 := by decide) (hall : keys.all (·.isSome) = true := by rfl) (hl : keys.length = values.length := by rfl) (h0 : keys ≠ [] := by decide) (h15 : keys.length ≤ 15 := by decide)
    (m2 : M2 X (.Dict keys values dpos) "get" apos e f pos := by exact ⟨rfl, rfl, rfl, rfl⟩) :
    CE X W (.Call (.Attribute (.Dict keys values dpos) "get" apos) [e, f] [] pos) (cDGet ks cvs cx cz) :=
  ⟨pe_wk (pe_dget2 hu (pe_dispU hd.p hall hl h0 h15) hx.p hz.p m2) fun σ H Q ⟨en, sc, hc, m, E, P, r, k, xo, fin⟩ =>
    ⟨en, sc, hc, m, E, _, r, k, xo, fun ds hc1 hp vs H1 m1 x1 q1 => ⟨_, kvs_eq ks vs, by rw [List.length_zip, List.length_map]; exact Nat.le_trans (Nat.min_le_left _ _) l15, fun p np => by
      have sm := same_upd (o := .dK (mergeK [] ((ks.map fun k => (Sum.inr k : Key)).zip vs))) np
      have x2 := Ex.same x1.toWd sm
      refine ⟨p, rfl, .inl ⟨_, .inl upd_same⟩, en, sc, hc1, m1, E, _, (r.call x1).call x2, hp, xo, fun d hc2 hp2 v H2 m2 x3 q2 => ?_⟩
      have x12 := x2.trans x3
      refine ⟨en, sc, hc2, m2, E, _, ((r.call x1).call x2).call x3, hp2, xo, fun z hc3 hp3 u H3 m3 x4 q3 => ?_⟩
      have x123 := x12.trans x4
      have hp3 : dGet ks ds d z P hc3 := hp3
      unfold dGet at hp3
      cases d <;> try exact hp3.elim
      · rename_i x _
        obtain ⟨lk, hp3⟩ := hp3
        unfold Rep at q2
        have hpd : H3 p = some (.dK (mergeK [] ((ks.map fun k => (Sum.inr k : Key)).zip vs))) := (x3.trans x4).stp.keep p _ upd_same trivial fun mp => by
          obtain ⟨us, z, _⟩ := x1.mu p mp
          rw [np] at z; cases z
        have g := DGet.k (k := (Sum.inr x : Key)) hpd
        rw [mergeK_nd _ [] (by rw [List.nil_append]; exact keys_nd nd vs), List.nil_append, val_zip] at g
        replace g : DGet H3 p v ((ks.zip vs).lookup x) := by rw [q2]; exact g
        refine ⟨_, g, ?_⟩
        cases ey : (ks.zip ds).lookup x with
        | some y =>
          rw [ey] at hp3
          obtain ⟨w, ew, rw'⟩ := (look_rep q1).1 y ey
          rw [ew]
          exact fin _ hc3 hp3 w H3 m3 (x1.trans x123) (Rep.mono x1.mu x123.stp _ _ rw')
        | none =>
          rw [ey] at hp3
          rw [(look_rep q1).2 ey q1.length]
          exact fin _ hc3 hp3 u H3 m3 (x1.trans x123) q3⟩⟩⟩
end
theorem e_DGet {ks : List Str} {cvs : CAx} {cx cz : CEx} {E : XP} {sc : List Sl} {hc : CH} {P : D → CH → Prop} : cDGet ks cvs cx cz E sc hc P = cvs E sc hc fun ds hc1 => cx E sc hc1 fun d hc2 => cz E sc hc2 fun z hc3 => dGet ks ds d z P hc3 := rfl
theorem e_DSub {ks : List Str} {cvs : CAx} {cx : CEx} {E : XP} {sc : List Sl} {hc : CH} {P : D → CH → Prop} : cDSub ks cvs cx E sc hc P = cvs E sc hc fun ds hc1 => cx E sc hc1 fun d hc2 => dSub ks ds d P hc2 := rfl
def keyD : Key → D
  | .inl i => .int i
  | .inr s => .str s
theorem Ex.still {K : PySem.W.Frag} {en : En} {H : Hp} {hc : CH} {m : Ms} {x : Addr} {us : List D} (a : Ex K en H hc m) (hx : hc x = some us) : Ex K en H (delc hc x) (fun p => m p ∧ p ≠ x) ∧ Stp H m H (fun p => m p ∧ p ≠ x) := by
  have st : Stp H m H (fun p => m p ∧ p ≠ x) := ⟨fun _ _ h _ _ => h, fun _ h => .inl h.1, fun p o h => by rw [h]; simp⟩
  refine ⟨⟨⟨a.tab, fun p z => a.mu p z.1, fun p ds e => ?_, fun p ds e => ?_⟩, a.emut, a.ehm, a.keep, fun p z => a.grow p z.1, fun p z h => ⟨a.hold p z h, fun y => ?_⟩, fun p ds e => ?_, a.live⟩, st⟩
  · unfold delc at e
    by_cases h : p = x
    · rw [if_pos h] at e; cases e
    · rw [if_neg h] at e; exact ⟨a.hm p ds e, h⟩
  · unfold delc at e
    by_cases h : p = x
    · rw [if_pos h] at e; cases e
    · rw [if_neg h] at e
      exact (a.heap p ds e).map (fun o e _ => e) fun es vs q => RepL.mono a.mu st _ _ q
  · subst y
    rcases a.hgrow p us hx with z1 | z1
    · exact z1 h
    · obtain ⟨o, e, _⟩ := a.emut p z
      rw [z1] at e; cases e
  · unfold delc at e
    by_cases h : p = x
    · rw [if_pos h] at e; cases e
    · rw [if_neg h] at e; exact a.hgrow p ds e
theorem Rs.still {K : PySem.W.Frag} {en : En} {σ : L2.St} {H : Hp} {sc : List Sl} {hc : CH} {m : Ms} (r : Rs K en σ H sc hc m) {x : Addr} {us : List D} (h : hc x = some us) : Rs K en σ H sc (delc hc x) (fun p => m p ∧ p ≠ x) ∧ Stp H m H (fun p => m p ∧ p ≠ x) := by
  obtain ⟨e, st⟩ := r.toEx.still h
  refine ⟨⟨e, fun i d z => ?_, fun i ds' z => ?_, r.sep, r.len⟩, st⟩
  · obtain ⟨v, e1, q⟩ := r.slot i d z
    exact ⟨v, e1, Rep.mono r.mu st _ _ q⟩
  · obtain ⟨p, vs, e1, mp, n, nh, el, q⟩ := r.own i ds' z
    refine ⟨p, vs, e1, ⟨mp, fun y => by rw [y, h] at nh; cases nh⟩, n, ?_, el, RepL.mono r.mu st _ _ q⟩
    unfold delc
    split
    · rfl
    · exact nh
def dlook : List Key → List D → Key → Option D
  | k :: ks, d :: ds, x => if k = x then some d else dlook ks ds x
  | _, _, _ => none
def cDispM (ks : List Str) (cvs : CAx) : CEx := fun E sc hc P => cvs E sc hc fun ds hc1 => ds.length = ks.length ∧ ∀ p, hc1 p = none → P (.ref p) (updc hc1 p (.mrd false (ks.map Sum.inr) :: ds))
def cPutF (i : Nat) (z : Str) (ce : CEx) : CSx := fun C sc hc => ce C.xp sc hc fun d hc1 => ∃ a ks ds, look sc i = some (.ref a) ∧ hc1 a = some (.mrd false ks :: ds) ∧ (Sum.inr z : Key) ∉ ks ∧ ks.length < 1000 ∧
  C.nx (sc.set i (.val (.dkl (ks ++ [Sum.inr z]) (ds ++ [d])))) (delc hc1 a)
def cItK (ce : CEx) : CIx := fun E sc hc P => ce E sc hc fun d hc1 => match d with
  | .dkl ks _ => P (ks.map keyD) hc1
  | _ => False
def subF : O2
  | .dkl ks ds, .str z, _, P => oth (dlook ks ds (Sum.inr z)) P
  | _, _, _, _ => False
def cSubF (co ci : CEx) : CEx := fun E sc hc P => co E sc hc fun o hc1 => ci E sc hc1 fun d hc2 => subF o d hc2 fun y => P y hc2
section
variable {X : Cx} {W : WX} {pos pos' p1 kp : Pos} {keys : List (Option Expr)} {values : List Expr} {ks : List Str} {e tg value o i : Expr} {cvs : CAx} {ce co ci : CEx}
end
theorem e_DispM {ks : List Str} {cvs : CAx} {E : XP} {sc : List Sl} {hc : CH} {P : D → CH → Prop} : cDispM ks cvs E sc hc P = cvs E sc hc fun ds hc1 => ds.length = ks.length ∧ ∀ p, hc1 p = none → P (.ref p) (updc hc1 p (.mrd false (ks.map Sum.inr) :: ds)) := rfl
theorem e_PutF {i : Nat} {z : Str} {ce : CEx} {C : CEnds} {sc : List Sl} {hc : CH} : cPutF i z ce C sc hc = ce C.xp sc hc fun d hc1 => ∃ a ks ds, look sc i = some (.ref a) ∧ hc1 a = some (.mrd false ks :: ds) ∧ (Sum.inr z : Key) ∉ ks ∧ ks.length < 1000 ∧ C.nx (sc.set i (.val (.dkl (ks ++ [Sum.inr z]) (ds ++ [d])))) (delc hc1 a) := rfl
theorem e_SubF {co ci : CEx} {E : XP} {sc : List Sl} {hc : CH} {P : D → CH → Prop} : cSubF co ci E sc hc P = co E sc hc fun o hc1 => ci E sc hc1 fun d hc2 => subF o d hc2 fun y => P y hc2 := rfl
theorem e_ItK {ce : CEx} {E : XP} {sc : List Sl} {hc : CH} {P : List D → CH → Prop} : cItK ce E sc hc P = ce E sc hc fun d hc1 => match d with
  | .dkl ks _ => P (ks.map keyD) hc1
  | _ => False := rfl
section
variable {X : Cx} {W : WX} {p pos : Pos} {i : Nat} {x : Str}
end
end Mn
set_option maxHeartbeats 4000000
namespace Gn
open PySem PySem.Spec PyProof.Rows L2 GenW Mn
section
variable {fp : List Addr} {K : PySem.W.Frag} {H : Hp} {m : Ms} {hc : CH}
end
section
variable {X : Cx} {pins : List (Addr × Obj)} {σ : L2.St} {H : Hp} {s : Shared} {fp : List Addr}
end
section
variable {X : Cx} {pins : List (Addr × Obj)} {σ : L2.St} {H : Hp} {s : Shared}
end
section
variable {X : Cx} {W : WX} {tg e elt : Expr} {es ifs : List Expr} {ca : CAx} {g : CGx} {ct : CTx} {ce : CEx} {pos pos2 p : Pos} {scope : Scope} {own : List (Str × Nat)}
end
section
variable {sp : SpG} {ca : CAx} {g : CGx} {t : CTx} {ce : CEx} {own : List Nat} {E : XP} {sc : List Sl} {hc : CH} {P : D → CH → Prop} {i : Nat}
end
end Gn
set_option maxHeartbeats 4000000
namespace Gn
open PySem PySem.Spec PyProof.Rows L2 GenW Mn
def cListG (sp : SpG) (ca : CAx) : CEx := fun E sc hc P => ca E sc hc fun ds hc1 => ∃ out, sp ds out ∧ out.length ≤ sizeLine ∧ P (.lst out) hc1
section
variable {X : Cx} {W : WX} {e : Expr} {es : List Expr} {ca : CAx} {pos pos2 p p1 : Pos}
end
theorem e_ListG {sp : SpG} {ca : CAx} {E : XP} {sc : List Sl} {hc : CH} {P : D → CH → Prop} : cListG sp ca E sc hc P = ca E sc hc fun ds hc1 => ∃ out, sp ds out ∧ out.length ≤ sizeLine ∧ P (.lst out) hc1 := rfl
end Gn
namespace Mn
open PySem PySem.W PySem.Spec PyProof.Rows L2
end Mn
set_option maxHeartbeats 1000000
namespace Gn
open PySem PySem.Spec PyProof.Rows L2 GenW Mn
theorem Woke.at {z : Z} {ip : List (Addr × Obj)} {s1 b1 s : Shared} {H1 H : Hp} {m1 m : Ms} {hc : CH} (w : Woke z ip s1 H1 m1 s H hc m) (h : b1.heap = s1.heap) : Woke z ip b1 H1 m1 s H hc m :=
  ⟨w.i, fun b hb o e => w.kp b hb o (by rw [← h]; exact e), w.nn, w.stp, w.wd⟩
section
variable {z : Z} {tg e : Expr} {es : List Expr} {body : List Stmt} {ca : CAx} {g : CGx} {j : CJ} {pos pos2 p : Pos}
end
section
variable {C : GE} {rest : List D} {sc : List Sl} {hc : CH} {sp : SpG} {ca : CAx} {g : CGx} {j : CJ}
end
end Gn
namespace Lk14
open PySem L2 Mn
set_option maxHeartbeats 0
def topS (i : Nat) : Stmt := PySem.Challenge.pw_numbertexts_k14_texts_read.main.body.getD i (.Pass ⟨0, 0, 0, 0⟩)
abbrev s__law_deck : Stmt := topS 34
theorem sc__law_deck : FnScope ["_law_script", "_law_cell"] ["_law_script"] (defScope s__law_deck) := ⟨rfl, rfl, rfl, by decide +kernel, rfl, by decide +kernel, by decide +kernel⟩
abbrev s__law_draw : Stmt := topS 35
theorem sc__law_draw : FnScope ["_law_deck_here", "_law_many", "_law_place", "_law_cell", "_law_mixed"] ["_law_deck_here", "_law_many"] (defScope s__law_draw) := ⟨rfl, rfl, rfl, by decide +kernel, rfl, by decide +kernel, by decide +kernel⟩
abbrev s__law_form : Stmt := topS 36
theorem sc__law_form : FnScope ["_law_deck_here", "_law_low"] ["_law_deck_here"] (defScope s__law_form) := ⟨rfl, rfl, rfl, by decide +kernel, rfl, by decide +kernel, by decide +kernel⟩
abbrev s__law_numbers : Stmt := topS 38
theorem sc__law_numbers : FnScope ["_law_form_here", "_law_p", "_law_low", "_law_high", "_law_found", "_law_e", "_law_m"] ["_law_form_here"] (defScope s__law_numbers) := ⟨rfl, rfl, rfl, by decide +kernel, rfl, by decide +kernel, by decide +kernel⟩
abbrev s__law_power : Stmt := topS 37
theorem sc__law_power : FnScope ["_law_base", "_law_number", "_law_found", "_law_k"] ["_law_base", "_law_number"] (defScope s__law_power) := ⟨rfl, rfl, rfl, by decide +kernel, rfl, by decide +kernel, by decide +kernel⟩
abbrev s__law_near_middle : Stmt := topS 41
theorem sc__law_near_middle : FnScope ["_law_deck_here", "_law_values", "_law_at", "_law_many", "_law_scale", "_law_number"] ["_law_deck_here", "_law_values"] (defScope s__law_near_middle) := ⟨rfl, rfl, rfl, by decide +kernel, rfl, by decide +kernel, by decide +kernel⟩
abbrev s__law_text : Stmt := topS 42
theorem sc__law_text : FnScope ["_law_deck_here", "_law_values", "_law_way", "_law_number", "_law_k", "_law_signs", "_law_left", "_law_shown", "_law_turn"] ["_law_deck_here", "_law_values"] (defScope s__law_text) := ⟨rfl, rfl, rfl, by decide +kernel, rfl, by decide +kernel, by decide +kernel⟩
abbrev s__law_between : Stmt := topS 39
theorem sc__law_between : FnScope ["_law_way", "_law_code_here", "_law_side", "_law_odd"] ["_law_way", "_law_code_here", "_law_side"] (defScope s__law_between) := ⟨rfl, rfl, rfl, by decide +kernel, rfl, by decide +kernel, by decide +kernel⟩
abbrev s__law_code : Stmt := topS 40
theorem sc__law_code : FnScope ["_law_values", "_law_way", "_law_num", "_law_den", "_law_top", "_law_x", "_law_code_here", "_law_value"] ["_law_values", "_law_way", "_law_num", "_law_den"] (defScope s__law_code) := ⟨rfl, rfl, rfl, by decide +kernel, rfl, by decide +kernel, by decide +kernel⟩
abbrev s_scan_word : Stmt := topS 28
theorem sc_scan_word : FnScope ["text", "at", "word", "index", "sign"] ["text", "at", "word"] (defScope s_scan_word) := ⟨rfl, rfl, rfl, by decide +kernel, rfl, by decide +kernel, by decide +kernel⟩
abbrev s_scan_digits : Stmt := topS 26
theorem sc_scan_digits : FnScope ["text", "at", "signs", "most", "digits", "front"] ["text", "at", "signs", "most"] (defScope s_scan_digits) := ⟨rfl, rfl, rfl, by decide +kernel, rfl, by decide +kernel, by decide +kernel⟩
abbrev s_scan_power : Stmt := topS 27
theorem sc_scan_power : FnScope ["text", "at", "most", "is_minus", "found", "begin"] ["text", "at", "most"] (defScope s_scan_power) := ⟨rfl, rfl, rfl, by decide +kernel, rfl, by decide +kernel, by decide +kernel⟩
abbrev s_scan_hex : Stmt := topS 30
theorem sc_scan_hex : FnScope ["text", "at", "digits", "behind"] ["text", "at"] (defScope s_scan_hex) := ⟨rfl, rfl, rfl, by decide +kernel, rfl, by decide +kernel, by decide +kernel⟩
abbrev s_scan_decimal : Stmt := topS 29
theorem sc_scan_decimal : FnScope ["text", "at", "digits", "behind", "power"] ["text", "at"] (defScope s_scan_decimal) := ⟨rfl, rfl, rfl, by decide +kernel, rfl, by decide +kernel, by decide +kernel⟩
abbrev s_parse_text : Stmt := topS 31
theorem sc_parse_text : FnScope ["value", "sign", "at"] ["value"] (defScope s_parse_text) := ⟨rfl, rfl, rfl, by decide +kernel, rfl, by decide +kernel, by decide +kernel⟩
abbrev s_half_of : Stmt := topS 4
theorem sc_half_of : FnScope ["form"] ["form"] (defScope s_half_of) := ⟨rfl, rfl, rfl, by decide +kernel, rfl, by decide +kernel, by decide +kernel⟩
abbrev s_count_of : Stmt := topS 5
theorem sc_count_of : FnScope ["form", "precision", "low", "high"] ["form"] (defScope s_count_of) := ⟨rfl, rfl, rfl, by decide +kernel, rfl, by decide +kernel, by decide +kernel⟩
abbrev s_ten : Stmt := topS 7
theorem sc_ten : FnScope ["power", "found", "base", "left"] ["power"] (defScope s_ten) := ⟨rfl, rfl, rfl, by decide +kernel, rfl, by decide +kernel, by decide +kernel⟩
abbrev s_fraction_of : Stmt := topS 9
theorem sc_fraction_of : FnScope ["decimal", "digits", "power"] ["decimal"] (defScope s_fraction_of) := ⟨rfl, rfl, rfl, by decide +kernel, rfl, by decide +kernel, by decide +kernel⟩
abbrev s_is_below : Stmt := topS 11
theorem sc_is_below : FnScope ["num", "den", "power"] ["num", "den", "power"] (defScope s_is_below) := ⟨rfl, rfl, rfl, by decide +kernel, rfl, by decide +kernel, by decide +kernel⟩
abbrev s_exponent_at : Stmt := topS 12
theorem sc_exponent_at : FnScope ["form", "num", "den", "precision", "low", "high", "power"] ["form", "num", "den"] (defScope s_exponent_at) := ⟨rfl, rfl, rfl, by decide +kernel, rfl, by decide +kernel, by decide +kernel⟩
abbrev s_position_at : Stmt := topS 13
theorem sc_position_at : FnScope ["form", "num", "den", "exponent", "part", "whole"] ["form", "num", "den"] (defScope s_position_at) := ⟨rfl, rfl, rfl, by decide +kernel, rfl, by decide +kernel, by decide +kernel⟩
abbrev s_nearest : Stmt := topS 14
theorem sc_nearest : FnScope ["num", "den", "below", "rest"] ["num", "den"] (defScope s_nearest) := ⟨rfl, rfl, rfl, by decide +kernel, rfl, by decide +kernel, by decide +kernel⟩
abbrev s_rounded_by : Stmt := topS 15
theorem sc_rounded_by : FnScope ["way", "num", "den"] ["way", "num", "den"] (defScope s_rounded_by) := ⟨rfl, rfl, rfl, by decide +kernel, rfl, by decide +kernel, by decide +kernel⟩
abbrev s_read_position : Stmt := topS 16
theorem sc_read_position : FnScope ["form", "way", "num", "den", "top"] ["form", "way", "num", "den"] (defScope s_read_position) := ⟨rfl, rfl, rfl, by decide +kernel, rfl, by decide +kernel, by decide +kernel⟩
abbrev s_read_fraction : Stmt := topS 17
theorem sc_read_fraction : FnScope ["form", "way", "num", "den", "part", "whole"] ["form", "way", "num", "den"] (defScope s_read_fraction) := ⟨rfl, rfl, rfl, by decide +kernel, rfl, by decide +kernel, by decide +kernel⟩
abbrev s_read : Stmt := topS 18
theorem sc_read : FnScope ["form", "way", "decimal", "num", "den"] ["form", "way", "decimal"] (defScope s_read) := ⟨rfl, rfl, rfl, by decide +kernel, rfl, by decide +kernel, by decide +kernel⟩
abbrev s_read_text : Stmt := topS 32
theorem sc_read_text : FnScope ["form", "way", "value", "parsed", "sign", "base", "number", "power"] ["form", "way", "value"] (defScope s_read_text) := ⟨rfl, rfl, rfl, by decide +kernel, rfl, by decide +kernel, by decide +kernel⟩
abbrev s__law_fails : Stmt := topS 43
theorem sc__law_fails : FnScope ["_law_form_here", "_law_way", "_law_value", "error"] ["_law_form_here", "_law_way", "_law_value"] (defScope s__law_fails) := ⟨rfl, rfl, rfl, by decide +kernel, rfl, by decide +kernel, by decide +kernel⟩
abbrev s_law : Stmt := topS 44
theorem sc_law : FnScope ["_law_script", "_law_deck_here", "_law_turn", "_law_form_here", "_law_values", "_law_k", "_law_text_here", "_law_number", "_law_front", "_law_way", "_law_due", "_law_value", "_law_place", "_law_again"] ["_law_script"] (defScope s_law) := ⟨rfl, rfl, rfl, by decide +kernel, rfl, by decide +kernel, by decide +kernel⟩
abbrev fvL : List Str := []
abbrev mf : Str := PySem.Challenge.pw_numbertexts_k14_texts_read.main.file
abbrev ini_BadText : IniD := ⟨"BadText", true, "place", "place", clsInit (topS 2)⟩
theorem t_BadText : IniT ini_BadText := ⟨⟨_, _, _, _, _, _, _, _, _, _, by decide +kernel, rfl⟩, fun _ _ _ _ _ _ _ _ _ _ => rfl, ⟨_, rfl, rfl⟩, ⟨by decide, by decide⟩, rfl, rfl, rfl, rfl, rfl, rfl, rfl, by decide +kernel⟩
namespace H
def dd__law_deck : He.DefD := ⟨("_law_deck", none), "_law_deck", "_law_deck", defArgs s__law_deck, defBody s__law_deck, defScope s__law_deck, [], []⟩
def dd__law_draw : He.DefD := ⟨("_law_draw", none), "_law_draw", "_law_draw", defArgs s__law_draw, defBody s__law_draw, defScope s__law_draw, [], []⟩
def dd__law_form : He.DefD := ⟨("_law_form", none), "_law_form", "_law_form", defArgs s__law_form, defBody s__law_form, defScope s__law_form, [], []⟩
def dd__law_numbers : He.DefD := ⟨("_law_numbers", none), "_law_numbers", "_law_numbers", defArgs s__law_numbers, defBody s__law_numbers, defScope s__law_numbers, [], []⟩
def dd__law_power : He.DefD := ⟨("_law_power", none), "_law_power", "_law_power", defArgs s__law_power, defBody s__law_power, defScope s__law_power, [], []⟩
def dd__law_near_middle : He.DefD := ⟨("_law_near_middle", none), "_law_near_middle", "_law_near_middle", defArgs s__law_near_middle, defBody s__law_near_middle, defScope s__law_near_middle, [], []⟩
def dd__law_text : He.DefD := ⟨("_law_text", none), "_law_text", "_law_text", defArgs s__law_text, defBody s__law_text, defScope s__law_text, [], []⟩
def dd__law_between : He.DefD := ⟨("_law_between", none), "_law_between", "_law_between", defArgs s__law_between, defBody s__law_between, defScope s__law_between, [], []⟩
def dd__law_code : He.DefD := ⟨("_law_code", none), "_law_code", "_law_code", defArgs s__law_code, defBody s__law_code, defScope s__law_code, [], []⟩
def dd_scan_word : He.DefD := ⟨("scan_word", none), "scan_word", "scan_word", defArgs s_scan_word, defBody s_scan_word, defScope s_scan_word, [], []⟩
def dd_scan_digits : He.DefD := ⟨("scan_digits", none), "scan_digits", "scan_digits", defArgs s_scan_digits, defBody s_scan_digits, defScope s_scan_digits, [], []⟩
def dd_scan_power : He.DefD := ⟨("scan_power", none), "scan_power", "scan_power", defArgs s_scan_power, defBody s_scan_power, defScope s_scan_power, [], []⟩
def dd_scan_hex : He.DefD := ⟨("scan_hex", none), "scan_hex", "scan_hex", defArgs s_scan_hex, defBody s_scan_hex, defScope s_scan_hex, [], []⟩
def dd_scan_decimal : He.DefD := ⟨("scan_decimal", none), "scan_decimal", "scan_decimal", defArgs s_scan_decimal, defBody s_scan_decimal, defScope s_scan_decimal, [], []⟩
def dd_parse_text : He.DefD := ⟨("parse_text", none), "parse_text", "parse_text", defArgs s_parse_text, defBody s_parse_text, defScope s_parse_text, [], []⟩
def dd_half_of : He.DefD := ⟨("half_of", none), "half_of", "half_of", defArgs s_half_of, defBody s_half_of, defScope s_half_of, [], []⟩
def dd_count_of : He.DefD := ⟨("count_of", none), "count_of", "count_of", defArgs s_count_of, defBody s_count_of, defScope s_count_of, [], []⟩
def dd_ten : He.DefD := ⟨("ten", none), "ten", "ten", defArgs s_ten, defBody s_ten, defScope s_ten, [], []⟩
def dd_fraction_of : He.DefD := ⟨("fraction_of", none), "fraction_of", "fraction_of", defArgs s_fraction_of, defBody s_fraction_of, defScope s_fraction_of, [], []⟩
def dd_is_below : He.DefD := ⟨("is_below", none), "is_below", "is_below", defArgs s_is_below, defBody s_is_below, defScope s_is_below, [], []⟩
def dd_exponent_at : He.DefD := ⟨("exponent_at", none), "exponent_at", "exponent_at", defArgs s_exponent_at, defBody s_exponent_at, defScope s_exponent_at, [], []⟩
def dd_position_at : He.DefD := ⟨("position_at", none), "position_at", "position_at", defArgs s_position_at, defBody s_position_at, defScope s_position_at, [], []⟩
def dd_nearest : He.DefD := ⟨("nearest", none), "nearest", "nearest", defArgs s_nearest, defBody s_nearest, defScope s_nearest, [], []⟩
def dd_rounded_by : He.DefD := ⟨("rounded_by", none), "rounded_by", "rounded_by", defArgs s_rounded_by, defBody s_rounded_by, defScope s_rounded_by, [], []⟩
def dd_read_position : He.DefD := ⟨("read_position", none), "read_position", "read_position", defArgs s_read_position, defBody s_read_position, defScope s_read_position, [], []⟩
def dd_read_fraction : He.DefD := ⟨("read_fraction", none), "read_fraction", "read_fraction", defArgs s_read_fraction, defBody s_read_fraction, defScope s_read_fraction, [], []⟩
def dd_read : He.DefD := ⟨("read", none), "read", "read", defArgs s_read, defBody s_read, defScope s_read, [], []⟩
def dd_read_text : He.DefD := ⟨("read_text", none), "read_text", "read_text", defArgs s_read_text, defBody s_read_text, defScope s_read_text, [], []⟩
def dd__law_fails : He.DefD := ⟨("_law_fails", none), "_law_fails", "_law_fails", defArgs s__law_fails, defBody s__law_fails, defScope s__law_fails, [], []⟩
def dd_law : He.DefD := ⟨("law", none), "law", "law", defArgs s_law, defBody s_law, defScope s_law, [], []⟩
def fn : List He.DefD := [dd__law_deck, dd__law_draw, dd__law_form, dd__law_numbers, dd__law_power, dd__law_near_middle, dd__law_text, dd__law_between, dd__law_code, dd_scan_word, dd_scan_digits, dd_scan_power, dd_scan_hex, dd_scan_decimal, dd_parse_text, dd_half_of, dd_count_of, dd_ten, dd_fraction_of, dd_is_below, dd_exponent_at, dd_position_at, dd_nearest, dd_rounded_by, dd_read_position, dd_read_fraction, dd_read, dd_read_text, dd__law_fails, dd_law]
def fa : List He.Fa := [.glo "_law_deck", .glo "_law_draw", .glo "_law_form", .glo "_law_numbers", .glo "_law_power", .glo "_law_near_middle", .glo "_law_text", .glo "_law_between", .glo "_law_code", .glo "scan_word", .glo "scan_digits", .glo "scan_power", .glo "scan_hex", .glo "scan_decimal", .glo "parse_text", .glo "half_of", .glo "count_of", .glo "ten", .glo "fraction_of", .glo "is_below", .glo "exponent_at", .glo "position_at", .glo "nearest", .glo "rounded_by", .glo "read_position", .glo "read_fraction", .glo "read", .glo "read_text", .glo "_law_fails", .glo "law", .free "abs", .free "divmod", .free "enumerate", .free "int", .free "isinstance", .free "len", .free "max", .free "min", .free "range", .free "repr", .free "str", .free "super", .str "DIGITS" "0123456789", .str "HEX_DIGITS" "0123456789abcdef", .int "MOST_DIGITS" 1300, .int "MOST_HEX" 300, .int "MOST_HEX_POWER" 1400, .int "MOST_POWER" 1200, .glo "BadText", .exm "BadText" "BadText" true]
def tc : TupC := []
abbrev R : PySem.W.OpenRow := PySem.W.OpenLaw.row PySem.Challenge.rw_numbertexts_k14_texts_read
def lm : List PySem.Str := []
def ini : List IniD := [ini_BadText]
abbrev hk : PySem.W.Hook := hookY 4 fa fn tc lm mf ini fvL
def ob (s : PySem.W.SharedT) : (((He.AlD × Bool) × Bool) × (Bool × List IniW)) × Bool := obsYG 4 fa fn tc lm mf ini fvL (HandSHeadRun.getT s)
theorem ob_eq (s : PySem.W.SharedT) : ob s = hk.obs s.abs := obsYG_eq (HandSHeadRun.getT_eq s)
def loose : List PySem.Str := (["NumberError", "BadText", "half_of", "count_of", "ten", "fraction_of", "is_below", "exponent_at", "position_at", "nearest", "rounded_by", "read_position"] : List PySem.Str) ++ (["read_fraction", "read", "DIGITS", "HEX_DIGITS", "MOST_DIGITS", "MOST_HEX", "MOST_POWER", "MOST_HEX_POWER", "scan_digits", "scan_power", "scan_word", "scan_decimal"] : List PySem.Str) ++ (["scan_hex", "parse_text", "read_text", "_law_deck", "_law_draw", "_law_form", "_law_power", "_law_numbers", "_law_between", "_law_code", "_law_near_middle", "_law_text"] : List PySem.Str) ++ (["_law_fails"] : List PySem.Str)
theorem run (w : World) : HandSHeadRun.RunEq R (PySem.W.view R.prog [44]) hk ob 5800 loose w := by
  intro os
  kernel_rfl
end H
structure Txt (K : PySem.W.Frag) (mg : Str → Option Value) : Prop where
  d__law_deck : DefAt K mg "_law_deck" s__law_deck
  d__law_draw : DefAt K mg "_law_draw" s__law_draw
  d__law_form : DefAt K mg "_law_form" s__law_form
  d__law_numbers : DefAt K mg "_law_numbers" s__law_numbers
  d__law_power : DefAt K mg "_law_power" s__law_power
  d__law_near_middle : DefAt K mg "_law_near_middle" s__law_near_middle
  d__law_text : DefAt K mg "_law_text" s__law_text
  d__law_between : DefAt K mg "_law_between" s__law_between
  d__law_code : DefAt K mg "_law_code" s__law_code
  d_scan_word : DefAt K mg "scan_word" s_scan_word
  d_scan_digits : DefAt K mg "scan_digits" s_scan_digits
  d_scan_power : DefAt K mg "scan_power" s_scan_power
  d_scan_hex : DefAt K mg "scan_hex" s_scan_hex
  d_scan_decimal : DefAt K mg "scan_decimal" s_scan_decimal
  d_parse_text : DefAt K mg "parse_text" s_parse_text
  d_half_of : DefAt K mg "half_of" s_half_of
  d_count_of : DefAt K mg "count_of" s_count_of
  d_ten : DefAt K mg "ten" s_ten
  d_fraction_of : DefAt K mg "fraction_of" s_fraction_of
  d_is_below : DefAt K mg "is_below" s_is_below
  d_exponent_at : DefAt K mg "exponent_at" s_exponent_at
  d_position_at : DefAt K mg "position_at" s_position_at
  d_nearest : DefAt K mg "nearest" s_nearest
  d_rounded_by : DefAt K mg "rounded_by" s_rounded_by
  d_read_position : DefAt K mg "read_position" s_read_position
  d_read_fraction : DefAt K mg "read_fraction" s_read_fraction
  d_read : DefAt K mg "read" s_read
  d_read_text : DefAt K mg "read_text" s_read_text
  d__law_fails : DefAt K mg "_law_fails" s__law_fails
  d_law : DefAt K mg "law" s_law
  tnd : (tabA K).Nodup
  n_abs : mg "abs" = none
  n_divmod : mg "divmod" = none
  n_enumerate : mg "enumerate" = none
  n_int : mg "int" = none
  n_isinstance : mg "isinstance" = none
  n_len : mg "len" = none
  n_max : mg "max" = none
  n_min : mg "min" = none
  n_range : mg "range" = none
  n_repr : mg "repr" = none
  n_str : mg "str" = none
  n_super : mg "super" = none
  k_DIGITS : GlobC K mg "DIGITS" (.str "0123456789")
  k_HEX_DIGITS : GlobC K mg "HEX_DIGITS" (.str "0123456789abcdef")
  k_MOST_DIGITS : GlobC K mg "MOST_DIGITS" (.int 1300)
  k_MOST_HEX : GlobC K mg "MOST_HEX" (.int 300)
  k_MOST_HEX_POWER : GlobC K mg "MOST_HEX_POWER" (.int 1400)
  k_MOST_POWER : GlobC K mg "MOST_POWER" (.int 1200)
  lim : statK K = true
  x_BadText : OwnC K mg "BadText" "place" "place" mf
  e_BadText_BadText : ExmC K mg "BadText" "BadText" true
  g_BadText : ∃ C, mg "BadText" = some (.ref C)
  fv : FvOk K fvL
variable {P : Program} {w : World} {K : PySem.W.Frag} {mg : Str → Option Value} {base : Heap}
local macro_rules | `(tactic| walk_at "n") => `(tactic| try simp -implicitDefEqProofs only [e_V, e_C, e_FnV, o_inF, e_Raise, e_Xf, e_Ch, e_AndV, e_OrV, e_NotV, e_O, e_Op, e_Un, e_Fn, e_Call, e_Nil, e_Cons, e_Tup, e_Lst, e_NoP, e_SoP, e_Sl, e_T, e_And, e_Or, e_Not, e_If, e_gN, e_Asg, e_Ret, e_RetN, e_Next, e_IfS, e_For, e_It, e_R1, e_R2, e_Drop, e_Par, e_Par3, e_App, e_SetO, e_Give, look_0, look_s, lookO_0, lookO_s, List.set_cons_zero, List.set_cons_succ, startC, List.map_cons, List.map_nil, List.cons_append, List.nil_append, List.length_cons, List.length_nil, List.replicate_zero, List.replicate_succ, List.append_nil, Nat.reduceAdd, Nat.reduceSub, if_true, Bool.false_eq_true, if_false, Bool.not_true, Bool.not_false, decide_true, decide_false, o_addI, o_addS, o_addL, o_addT, o_addR, o_addR', o_sub, o_mul, o_mulL, o_fdiv, o_mod, o_pow, o_shl, o_shr, o_and, o_or, o_neg, o_eqI, o_eqS, o_neI, o_neS, o_lt, o_le, o_gt, o_ge, o_ixL, o_ixT, o_ixR, o_abs, o_int, o_max, o_min, o_lenL, o_lenT, o_lenF, o_lenR, o_slL, o_slT, o_slF, at_0, at_1, at_2, at_3, at_4, o_rev, o_tupF, o_tupF2, o_lstF, o_lstF2, o_repr, e_gNil, o_intB, o_str, o_mulT, o_reprR, o_tupR, e_LstM, o_slR, e_gSubO, o_revBL, o_revBT, o_isN5, o_isN6, o_isN7, o_notN5, o_notN6, o_notN7, o_lenS, o_strS, o_isB, o_notB, o_isi1, o_isi2, o_isi3, o_isi4, o_isi5, o_isi6, o_isi7, o_isi8, ty_int_N, ty_int_B, ty_int_I, ty_int_S, ty_int_T, ty_int_L, ty_int_D, ty_bool_N, ty_bool_B, ty_bool_I, ty_bool_S, ty_bool_T, ty_bool_L, ty_bool_D, ty_str_N, ty_str_B, ty_str_I, ty_str_S, ty_str_T, ty_str_L, ty_str_D, ty_tuple_N, ty_tuple_B, ty_tuple_I, ty_tuple_S, ty_tuple_T, ty_tuple_L, ty_tuple_D, ty_list_N, ty_list_B, ty_list_I, ty_list_S, ty_list_T, ty_list_L, ty_list_D, ty_dict_N, ty_dict_B, ty_dict_I, ty_dict_S, ty_dict_T, ty_dict_L, ty_dict_D, o_catL, e_SetF, e_gCons, e_gUnT, e_gUnL, e_gTup, true_and, e_ParO, e_Star, wipe_0, wipe_s, o_bits, o_divmod, o_inL, o_inT, o_ninL, o_ninT, o_isN1, o_isN2, o_isN3, o_isN4, o_notN1, o_notN2, o_notN3, o_notN4, e_Match, e_arm0, e_arm1, e_arm2, e_Zip, o_zip, e_Ext, e_ParO2, e_ParN, e_ParO3, e_MinD, e_LZip, o_lzip, e_R3P, e_IsX, e_Zip3, o_zip3, e_LRg1, e_LRg2, e_Rs, e_Srp, e_Lj, e_R3, e_Enum, o_enL, o_all1, e_ItS, e_EnumS, o_enS, e_Jn, e_IxS, o_iT1, o_iT2, o_iT3, o_iT4, o_mT, o_xS, o_xT, o_xL, o_enT, e_SrtS, e_LamC, e_CallD, e_CallK, e_CallV, e_CtB, e_DispM, e_PutF, e_SubF, e_ItK, e_DGet, Gn.e_ListG, e_DSub])
local macro_rules | `(tactic| walk_at "x") => `(tactic| try simp -implicitDefEqProofs only [e_V, e_C, e_FnV, o_inF, e_Raise, e_Xf, e_Ch, e_AndV, e_OrV, e_NotV, e_O, e_Op, e_Un, e_Fn, e_Call, e_Nil, e_Cons, e_Tup, e_Lst, e_NoP, e_SoP, e_Sl, e_T, e_And, e_Or, e_Not, e_If, e_gN, e_Asg, e_Ret, e_RetN, e_Next, e_IfS, e_For, e_It, e_R1, e_R2, e_Drop, e_Par, e_Par3, e_App, e_SetO, e_Give, look_0, look_s, lookO_0, lookO_s, List.set_cons_zero, List.set_cons_succ, startC, List.map_cons, List.map_nil, List.cons_append, List.nil_append, List.length_cons, List.length_nil, List.replicate_zero, List.replicate_succ, List.append_nil, Nat.reduceAdd, Nat.reduceSub, if_true, Bool.false_eq_true, if_false, Bool.not_true, Bool.not_false, decide_true, decide_false, o_addI, o_addS, o_addL, o_addT, o_addR, o_addR', o_sub, o_mul, o_mulL, o_fdiv, o_mod, o_pow, o_shl, o_shr, o_and, o_or, o_neg, o_eqI, o_eqS, o_neI, o_neS, o_lt, o_le, o_gt, o_ge, o_ixL, o_ixT, o_ixR, o_abs, o_int, o_max, o_min, o_lenL, o_lenT, o_lenF, o_lenR, o_slL, o_slT, o_slF, at_0, at_1, at_2, at_3, at_4, o_rev, o_tupF, o_tupF2, o_lstF, o_lstF2, o_repr, e_gNil, o_intB, o_str, o_mulT, o_reprR, o_tupR, e_LstM, o_slR, e_gSubO, o_revBL, o_revBT, o_isN5, o_isN6, o_isN7, o_notN5, o_notN6, o_notN7, o_lenS, o_strS, o_isB, o_notB, o_isi1, o_isi2, o_isi3, o_isi4, o_isi5, o_isi6, o_isi7, o_isi8, ty_int_N, ty_int_B, ty_int_I, ty_int_S, ty_int_T, ty_int_L, ty_int_D, ty_bool_N, ty_bool_B, ty_bool_I, ty_bool_S, ty_bool_T, ty_bool_L, ty_bool_D, ty_str_N, ty_str_B, ty_str_I, ty_str_S, ty_str_T, ty_str_L, ty_str_D, ty_tuple_N, ty_tuple_B, ty_tuple_I, ty_tuple_S, ty_tuple_T, ty_tuple_L, ty_tuple_D, ty_list_N, ty_list_B, ty_list_I, ty_list_S, ty_list_T, ty_list_L, ty_list_D, ty_dict_N, ty_dict_B, ty_dict_I, ty_dict_S, ty_dict_T, ty_dict_L, ty_dict_D, o_catL, e_SetF, e_gCons, e_gUnT, e_gUnL, e_gTup, true_and, e_ParO, e_Star, wipe_0, wipe_s, o_bits, o_divmod, o_inL, o_inT, o_ninL, o_ninT, o_isN1, o_isN2, o_isN3, o_isN4, o_notN1, o_notN2, o_notN3, o_notN4, e_Match, e_arm0, e_arm1, e_arm2, e_Zip, o_zip, e_Ext, e_ParO2, e_ParN, e_ParO3, e_MinD, e_LZip, o_lzip, e_R3P, e_IsX, e_Zip3, o_zip3, e_LRg1, e_LRg2, e_Rs, e_Srp, e_Lj, e_R3, e_Enum, o_enL, o_all1, e_ItS, e_EnumS, o_enS, e_Jn, e_IxS, o_iT1, o_iT2, o_iT3, o_iT4, o_mT, o_xS, o_xT, o_xL, o_enT, e_SrtS, e_LamC, e_CallD, e_CallK, e_CallV, e_CtB, e_DispM, e_PutF, e_SubF, e_ItK, e_DGet, Gn.e_ListG, e_DSub])
local macro_rules | `(tactic| walk_at "b") => `(tactic| simp -implicitDefEqProofs only [e_gN, e_gUnT, e_gUnL, e_gTup, e_gCons, e_gNil, List.set_cons_zero, List.set_cons_succ, List.length_cons, List.length_nil, Nat.reduceAdd, true_and])
local macro_rules | `(tactic| walk_at "l") => `(tactic| first | exact Nat.zero_lt_succ _ | exact Nat.le_of_ble_eq_true rfl | simp)
abbrev N__law_deck : List Str := ["_law_script", "_law_cell"]
def c__law_deck : CSx :=
  (cRet (cLstM (cCons (cLcM (cIt (cSl (cV 0) cNoP (cSoP (cC (.int 63))))) (gN 1) cYes (cFn absD (cCons (cV 1) cNil)) [1]) (cCons (cC (.int 0)) cNil))))
def Dk (b : CH) (r q : Addr) (N : Nat) (hc : CH) : Prop := r ≠ q ∧ (∃ (cells : List Int) (n : Int), hc r = some [.ref q, .int n] ∧ hc q = some (cells.map D.int) ∧ (∀ c ∈ cells, 0 ≤ c) ∧ cells.length ≤ 63 ∧ 0 ≤ n ∧ n ≤ N) ∧ ∀ a, a ≠ r → a ≠ q → hc a = b a
theorem Dk.mono {b : CH} {r q : Addr} {N M : Nat} {hc : CH} (h : Dk b r q N hc) (l : N ≤ M) : Dk b r q M hc := by
  obtain ⟨h1, ⟨cells, n, h2, h3, h4, h5, h6, h7⟩, h8⟩ := h
  exact ⟨h1, ⟨cells, n, h2, h3, h4, h5, h6, by omega⟩, h8⟩
theorem le18 {x : Int} (h : x ≤ 1000000000000000000) : x ≤ 10 ^ 18 := by
  have e : (10 : Int) ^ 18 = 1000000000000000000 := by decide
  omega
def sp__law_deck : Spc := fun ds hc Q _ => ∃ ns : List Int, ds = [.frz (ns.map D.int)] ∧ ns.length ≤ 63 ∧ ∀ r q hc', Dk hc r q 0 hc' → Q (.ref r) hc'
theorem len__law_deck {ds : List D} {hc : CH} {Q E} (h : sp__law_deck ds hc Q E) : ds.length = 1 := by
  obtain ⟨ns, rfl, _⟩ := h
  rfl
theorem cut63 {α : Type} (xs : List α) (h : xs.length ≤ 63) : cutX xs none (some 63) = xs := by
  unfold cutX
  rw [show HT.sIx xs.length 0 none = 0 from rfl, show HT.sIx xs.length xs.length (some 63) = min 63 xs.length from HT.sIx_nat _ _ 63]
  rw [Nat.sub_zero, List.drop_zero, Nat.min_eq_right h, List.take_length]
theorem pure__law_deck {ds : List D} {hc : CH} {Q : D → CH → Prop} {E} (h : sp__law_deck ds hc Q E) : c__law_deck { nx := fun _ hc' => Q .non hc', rt := Q, xp := fun x _ hc' => E x hc' } (startC N__law_deck ds) hc := by
  obtain ⟨ns, rfl, hl, q⟩ := h
  have hcut : cutX (ns.map D.int) none (some 63) = ns.map D.int := cut63 _ (by rw [List.length_map]; exact hl)
  show (cutX (ns.map D.int) none (some 63)).length ≤ sizeLine ∧ _
  rw [hcut]
  refine ⟨by rw [List.length_map]; exact Nat.le_trans hl (by decide), ?_⟩
  refine lc_map (fun d => match d with | .int i => .int (if i < 0 then -i else i) | d => d) (fun d hd Nx k => ?_) ?_
  · obtain ⟨n, _, rfl⟩ := List.mem_map.mp hd
    exact k
  · rw [List.map_map]
    intro p hp
    refine ⟨by show 2 ≤ sizeLine; decide, fun r hr => ?_⟩
    have hrp : r ≠ p := fun e => by
      rw [e, updc_same] at hr; cases hr
    refine q r p _ ⟨hrp, ⟨ns.map fun i => if i < 0 then -i else i, 0, updc_same, ?_, ?_, by rw [List.length_map]; exact hl, Int.le_refl _, Int.le_refl _⟩, fun a h1 h2 => ?_⟩
    · rw [updc_ne (Ne.symm hrp), updc_same, List.map_map]
      rfl
    · intro c hc'
      obtain ⟨n, _, rfl⟩ := List.mem_map.mp hc'
      split <;> omega
    · rw [updc_ne h1, updc_ne h2]
theorem at__law_deck (T : Txt K mg) (B : BaseT K mg base) (KX : K.In base) (PS : Sup P mf)  : FnAt P w K mg base 1 "_law_deck" ["_law_script"] sp__law_deck :=
  fn_at (c := c__law_deck) T.d__law_deck sc__law_deck (fun f cdv A outer s H E hr => by
    have nd := sc__law_deck.nd
    exact (css_one (cs_ret (CE.bo (ce_lstM (ca_cons (ce_lcM rfl nd (own := [("_law_cell", 1)]) (ci_e (ce_sl (CE.bo (ce_v 0)) co_none (co_some ce_i))) (blkOk_by (N := ["_law_script", "_law_cell"]) (sc := defScope s__law_deck) (own := [("_law_cell", 1)]) (by decide +kernel)) (fun _ _ _ _ _ => (cgk_n 1 nd)) (fun _ _ _ _ _ => cts_nil) (fun _ _ _ _ _ => (ce_bf bf_abs T.n_abs (cba_cons (CE.bo (ce_v 1)) cba_nil)))) (ca_cons ce_i ca_nil)))))))
    (fun ds hc Q E h => len__law_deck h) (fun ds hc Q E h => pure__law_deck h) (fun _ _ _ _ _ _ us hl => match us, hl with | [_], _ => rfl)
abbrev N__law_draw : List Str := ["_law_deck_here", "_law_many", "_law_place", "_law_cell", "_law_mixed"]
def c__law_draw : CSx :=
  (cSeq (cAsg (cOp addD (cOp ixD (cV 0) (cC (.int 1))) (cC (.int 1))) (gSub' (cV 0) (cC (.int 1))))
    (cSeq (cAsg (cOp modD (cFn intFD (cCons (cOp ixD (cV 0) (cC (.int 1))) cNil)) (cFn maxD2 (cCons (cC (.int 1)) (cCons (cFn lenD (cCons (cOp ixD (cV 0) (cC (.int 0))) cNil)) cNil)))) (gN 2))
    (cSeq (cAsg (cOp ixD (cOp addD (cOp ixD (cV 0) (cC (.int 0))) (cLst (cCons (cC (.int 0)) cNil))) (cV 2)) (gN 3))
    (cSeq (cIfS (cT (cOp geD (cV 3) (cOp powD (cC (.int 10)) (cC (.int 18)))))
    (cSeq (cAsg (cOp fdivD (cV 3) (cV 1)) (gSub' (cOp ixD (cV 0) (cC (.int 0))) (cV 2)))
    (cRet (cOp modD (cFn intFD (cCons (cV 3) cNil)) (cV 1))))
    cNext)
    (cSeq (cAsg (cOp powD (cOp addD (cOp addD (cOp modD (cFn intFD (cCons (cV 3) cNil)) (cC (.int 2147483587))) (cOp mulD (cC (.int 7919)) (cOp ixD (cV 0) (cC (.int 1))))) (cC (.int 1))) (cC (.int 5))) (gN 4))
    (cRet (cOp modD (cFn intFD (cCons (cOp modD (cFn intFD (cCons (cV 4) cNil)) (cC (.int 2147483647))) cNil)) (cV 1))))))))
def sp__law_draw : Spc := fun ds hc Q _ => ∃ b r q N many, ds = [.ref r, .int many] ∧ Dk b r q N hc ∧ N < 1000000 ∧ 0 < many ∧ many ≤ 10 ^ 18 ∧ ∀ k hc', 0 ≤ k → k < many → Dk b r q (N + 1) hc' → Q (.int k) hc'
theorem len__law_draw {ds : List D} {hc : CH} {Q E} (h : sp__law_draw ds hc Q E) : ds.length = 2 := by
  obtain ⟨b, r, q, N, many, rfl, _⟩ := h
  rfl
theorem many_ok {many : Int} (h0 : 0 < many) (h1 : many ≤ 10 ^ 18) (c : Int) : DivOk c many := divOk 64 h0 (by
  have e : (10 : Int) ^ 18 = 1000000000000000000 := by decide
  have e2 : (2 : Nat) ^ 64 = 18446744073709551616 := by decide
  omega) (by decide)
theorem pure__law_draw {ds : List D} {hc : CH} {Q : D → CH → Prop} {E} (h : sp__law_draw ds hc Q E) : c__law_draw { nx := fun _ hc' => Q .non hc', rt := Q, xp := fun x _ hc' => E x hc' } (startC N__law_draw ds) hc := by
  obtain ⟨b, r, q, N, many, rfl, ⟨hrq, ⟨cells, n, hr, hq, hnn, hlen, n0, n1⟩, fr⟩, hN, m0, m1, k⟩ := h
  unfold c__law_draw N__law_draw
  refine seq_step fun M hM => ?_
  walk_at "n"
  refine oth_hL hr ?_
  walk_at "n"
  refine oth_hL hr (oth_some (x := 1) rfl (hM _ _ ?_))
  have hr1 : updc hc r ([D.ref q, D.int n].set 1 (D.int (n + 1))) r = some [.ref q, .int (n + 1)] := updc_same
  have hq1 : updc hc r ([D.ref q, D.int n].set 1 (D.int (n + 1))) q = some (cells.map D.int) := by rw [updc_ne (Ne.symm hrq)]; exact hq
  have fr1 : ∀ a, a ≠ r → a ≠ q → updc hc r ([D.ref q, D.int n].set 1 (D.int (n + 1))) a = b a := fun a h1 h2 => by rw [updc_ne h1]; exact fr a h1 h2
  have dk1 : Dk b r q (N + 1) (updc hc r ([D.ref q, D.int n].set 1 (D.int (n + 1)))) := ⟨hrq, ⟨cells, n + 1, hr1, hq1, hnn, hlen, by omega, by omega⟩, fr1⟩
  revert hr1 hq1 fr1 dk1
  generalize updc hc r ([D.ref q, D.int n].set 1 (D.int (n + 1))) = hc1
  intro hr1 hq1 fr1 dk1
  refine seq_step fun M hM => ?_
  walk_at "n"
  refine oth_hL hr1 ?_
  walk_at "n"
  refine oth_hL hr1 ?_
  walk_at "n"
  refine oth_hL hq1 ?_
  walk_at "n"
  rw [List.length_map]
  have ml : (0 : Int) < (if (cells.length : Int) > 1 then (cells.length : Int) else 1) := by split <;> omega
  refine ⟨ml, ?_⟩
  have p0 := Int.emod_nonneg (n + 1) (show (if (cells.length : Int) > 1 then (cells.length : Int) else 1) ≠ 0 by omega)
  have p1 : (n + 1) % (if (cells.length : Int) > 1 then (cells.length : Int) else 1) < (cells.length : Int) + 1 := Int.lt_of_lt_of_le (Int.emod_lt_of_pos _ ml) (by split <;> omega)
  revert p0 p1
  generalize (n + 1) % (if (cells.length : Int) > 1 then (cells.length : Int) else 1) = pl
  intro p0 p1
  refine hM _ _ ?_
  refine seq_step fun M hM => ?_
  walk_at "n"
  refine oth_hL hr1 ?_
  walk_at "n"
  refine ⟨by decide, ?_⟩
  refine oth_hL hq1 ⟨by rw [List.length_map, sizeLine_eq]; omega, ?_⟩
  refine atD_all p0 (by rw [List.length_append, List.length_map, List.length_singleton]; omega) fun j d ej ed => ?_
  refine hM _ _ ?_
  have hd : ∃ c, d = .int c ∧ 0 ≤ c ∧ (10 ^ 18 ≤ c → j < cells.length) := by
    by_cases hj : j < cells.length
    · rw [List.getElem?_append_left (by rw [List.length_map]; exact hj), List.getElem?_map] at ed
      cases e : cells[j]? with
      | none => rw [e] at ed; cases ed
      | some c =>
        rw [e] at ed; cases ed
        exact ⟨c, rfl, hnn c (List.mem_of_getElem? e), fun _ => hj⟩
    · rw [List.getElem?_append_right (by rw [List.length_map]; omega), List.length_map] at ed
      have : j - cells.length = 0 := by omega
      rw [this] at ed
      cases ed
      exact ⟨0, rfl, Int.le_refl _, fun z => absurd z (by decide)⟩
  obtain ⟨c, rfl, c0, hc10⟩ := hd
  have cp : CPow 10 18 := ⟨by decide, by decide, by decide⟩
  refine seq_step fun M hM => ?_
  walk_at "n"
  refine ⟨cp, ?_⟩
  refine ite2 (fun big => ?_) (fun small => ?_)
  · have hj := hc10 (of_decide_eq_true big)
    refine seq_step fun M2 hM2 => ?_
    walk_at "n"
    refine ⟨many_ok m0 m1 c, ?_⟩
    refine oth_hL hr1 ?_
    walk_at "n"
    refine oth_hL hq1 (oth_some (set_nat p0 (by rw [List.length_map]; omega)) ?_)
    refine hM2 _ _ ?_
    walk_at "n"
    refine ⟨m0, k _ _ (Int.emod_nonneg _ (by omega)) (Int.emod_lt_of_pos _ m0) ?_⟩
    refine ⟨hrq, ⟨cells.set pl.toNat (c / many), n + 1, ?_, ?_, ?_, by rw [List.length_set]; exact hlen, by omega, by omega⟩, fun a h1 h2 => ?_⟩
    · rw [updc_ne hrq]; exact hr1
    · rw [updc_same, List.map_set]
    · intro x hx
      rcases List.mem_or_eq_of_mem_set hx with hx | rfl
      · exact hnn x hx
      · exact Int.ediv_nonneg c0 (by omega)
    · rw [updc_ne h2]; exact fr1 a h1 h2
  · refine hM _ _ ?_
    refine seq_step fun M2 hM2 => ?_
    walk_at "n"
    refine ⟨by decide, ?_⟩
    refine oth_hL hr1 ?_
    walk_at "n"
    refine ⟨mulOk_l (by decide), ?_⟩
    have q0 : 0 ≤ c % 2147483587 := Int.emod_nonneg _ (by decide)
    have q1 : c % 2147483587 < 2147483587 := Int.emod_lt_of_pos _ (by decide)
    refine ⟨⟨by decide, by decide, ?_⟩, hM2 _ _ ?_⟩
    · have e2 : (2 : Nat) ^ 64 = 18446744073709551616 := by decide
      rw [e2]
      omega
    · walk_at "n"
      exact ⟨by decide, m0, k _ _ (Int.emod_nonneg _ (by omega)) (Int.emod_lt_of_pos _ m0) dk1⟩
theorem at__law_draw (T : Txt K mg) (B : BaseT K mg base) (KX : K.In base) (PS : Sup P mf)  : FnAt P w K mg base 1 "_law_draw" ["_law_deck_here", "_law_many"] sp__law_draw :=
  fn_at (c := c__law_draw) T.d__law_draw sc__law_draw (fun f cdv A outer s H E hr => by
    have nd := sc__law_draw.nd
    exact (css_cons (cs_asg (ce_op op_addD (CE.bo (ce_ix (CE.bo (ce_v 0)) ce_i)) (CE.bo ce_i)) (cg_s (ce_v 0) ce_i))
    (css_cons (cs_set nd (ce_op op_modD (CE.bo (ce_bt bt_int T.n_int (cba_cons (CE.bo (ce_ix (CE.bo (ce_v 0)) ce_i)) cba_nil))) (CE.bo (ce_bf (bf_max2 rfl) T.n_max (cba_cons (CE.bo ce_i) (cba_cons (CE.bo (ce_bf bf_len T.n_len (cba_cons (CE.bo (ce_ix (CE.bo (ce_v 0)) ce_i)) cba_nil))) cba_nil))))))
    (css_cons (cs_set nd (ce_ix (CE.bo (ce_op op_addD (CE.bo (ce_ix (CE.bo (ce_v 0)) ce_i)) (CE.bo (ce_lst (ca_cons ce_i ca_nil))))) (ce_v 2)))
    (css_cons (cs_if (ct_cmp op_geD (CE.bo (ce_v 3)) (CE.bo (ce_op op_powD (CE.bo ce_i) (CE.bo ce_i))))
    (css_cons (cs_asg (ce_op op_fdivD (CE.bo (ce_v 3)) (CE.bo (ce_v 1))) (cg_s (ce_ix (CE.bo (ce_v 0)) ce_i) (ce_v 2)))
    (css_one (cs_ret (CE.bo (ce_op op_modD (CE.bo (ce_bt bt_int T.n_int (cba_cons (CE.bo (ce_v 3)) cba_nil))) (CE.bo (ce_v 1)))))))
    css_nil)
    (css_cons (cs_set nd (ce_op op_powD (CE.bo (ce_op op_addD (CE.bo (ce_op op_addD (CE.bo (ce_op op_modD (CE.bo (ce_bt bt_int T.n_int (cba_cons (CE.bo (ce_v 3)) cba_nil))) (CE.bo ce_i))) (CE.bo (ce_op op_mulD (CE.bo ce_i) (CE.bo (ce_ix (CE.bo (ce_v 0)) ce_i)))))) (CE.bo ce_i))) (CE.bo ce_i)))
    (css_one (cs_ret (CE.bo (ce_op op_modD (CE.bo (ce_bt bt_int T.n_int (cba_cons (CE.bo (ce_op op_modD (CE.bo (ce_bt bt_int T.n_int (cba_cons (CE.bo (ce_v 4)) cba_nil))) (CE.bo ce_i))) cba_nil))) (CE.bo (ce_v 1))))))))))))
    (fun ds hc Q E h => len__law_draw h) (fun ds hc Q E h => pure__law_draw h) (fun _ _ _ _ _ _ us hl => match us, hl with | [_, _], _ => rfl)
abbrev N__law_form : List Str := ["_law_deck_here", "_law_low"]
def c__law_form : CSx :=
  (cSeq (cAsg (cOp subD (cCall sp__law_draw (cCons (cV 0) (cCons (cC (.int 13)) cNil))) (cC (.int 8))) (gN 1))
    (cRet (cTup (cCons (cOp addD (cC (.int 1)) (cCall sp__law_draw (cCons (cV 0) (cCons (cC (.int 6)) cNil)))) (cCons (cV 1) (cCons (cOp addD (cV 1) (cCall sp__law_draw (cCons (cV 0) (cCons (cFn minD2 (cCons (cC (.int 9)) (cCons (cOp subD (cC (.int 9)) (cV 1)) cNil))) cNil)))) cNil))))))
structure Fm (p l h : Int) : Prop where
  p0 : 1 ≤ p
  p1 : p ≤ 128
  l0 : -1200 ≤ l
  lh : l ≤ h
  h1 : h ≤ 1200
abbrev fmD (p l h : Int) : D := .tup [.int p, .int l, .int h]
theorem up_pow {i : Int} {k : Nat} (n : Nat) (h : i.natAbs < 2 ^ k) (hk : k ≤ n := by decide) : i.natAbs < 2 ^ n := Nat.lt_of_lt_of_le h (Nat.pow_le_pow_right (by decide) hk)
theorem add_pow {i j : Int} {k : Nat} (hi : i.natAbs < 2 ^ k) (hj : j.natAbs < 2 ^ k) : (i + j).natAbs < 2 ^ (k + 1) := by
  rw [Nat.pow_succ]
  omega
theorem mul_pow {i j : Int} {k l : Nat} (hi : i.natAbs < 2 ^ k) (hj : j.natAbs < 2 ^ l) : (i * j).natAbs < 2 ^ (k + l) := by
  rw [Int.natAbs_mul, Nat.pow_add]
  exact Nat.mul_lt_mul'' hi hj
def P2 (s : Int) : Int := 2 ^ s.toNat
theorem P2_pos (s : Int) : 0 < P2 s := Int.pow_pos (by decide)
theorem pow2_add (a b : Nat) : (2 : Int) ^ (a + b) = 2 ^ a * 2 ^ b := Int.pow_add ..
theorem P2_shift (s : Int) (k : Nat) : P2 (s + k) * P2 (-s) = 2 ^ k * (P2 s * P2 (-(s + k))) := by
  unfold P2
  rw [← pow2_add, ← pow2_add, ← pow2_add]
  congr 1
  omega
theorem P2_nat (a b : Nat) : (2 : Int) ^ a * P2 (-((a : Int) - b)) = 2 ^ b * P2 ((a : Int) - b) := by
  unfold P2
  rw [← pow2_add, ← pow2_add]
  congr 1
  omega
def P10 (s : Int) : Int := 10 ^ s.toNat
theorem P10_pos (s : Int) : 0 < P10 s := Int.pow_pos (by decide)
theorem P2_nn {s : Int} (h : s ≤ 0) : P2 s = 1 := by unfold P2; rw [show s.toNat = 0 by omega]; rfl
theorem P10_nn {s : Int} (h : s ≤ 0) : P10 s = 1 := by unfold P10; rw [show s.toNat = 0 by omega]; rfl
theorem P10_bits (s : Int) (n : Nat) (h : s ≤ n) : (P10 s).natAbs < 2 ^ (4 * n + 1) := by
  unfold P10
  rw [Int.natAbs_pow]
  have h1 : (10 : Nat) ^ s.toNat ≤ 16 ^ s.toNat := Nat.pow_le_pow_left (by decide) _
  have h2 : (16 : Nat) ^ s.toNat = 2 ^ (4 * s.toNat) := by rw [show (16 : Nat) = 2 ^ 4 from rfl, ← Nat.pow_mul]
  have h3 : (2 : Nat) ^ (4 * s.toNat) < 2 ^ (4 * n + 1) := Nat.pow_lt_pow_right (by decide) (by omega)
  show (10 : Nat) ^ s.toNat < _
  omega
theorem P2_bits (s : Int) (n : Nat) (h : s ≤ n) : (P2 s).natAbs < 2 ^ (n + 1) := by
  unfold P2
  rw [Int.natAbs_pow]
  exact Nat.pow_lt_pow_right (by decide) (by omega)
theorem intBits_le {i : Int} {a : Nat} (hi : i.natAbs < 2 ^ a) : Builtin.Int.intBits i ≤ a := by
  unfold Builtin.Int.intBits
  split
  · omega
  · rename_i h
    have h0 : i.natAbs ≠ 0 := by
      intro z
      exact h (by simp; omega)
    have := (Nat.log2_lt h0).mpr hi
    omega
theorem shlOk {i s : Int} {a b : Nat} (hi : i.natAbs < 2 ^ a) (h0 : 0 ≤ s) (hs : s ≤ b) (h : a + b ≤ 134217728) : CShl i s := by
  refine ⟨h0, ?_⟩
  have := intBits_le hi
  have e : (2 : Int) ^ 27 = 134217728 := by decide
  omega
theorem natAbs_sub_pow {i j : Int} {k : Nat} (hi : i.natAbs < 2 ^ k) (hj : j.natAbs < 2 ^ k) : (i - j).natAbs < 2 ^ (k + 1) := by
  rw [Nat.pow_succ]
  omega
def halfI (p : Int) : Int := 2 ^ (p - 1).toNat
def cntI (p l h : Int) : Int := (h - l + 2) * halfI p
def moreI (p c : Int) : Int := if c / halfI p - 1 > 0 then c / halfI p - 1 else 0
def ptM (p c : Int) : Int := c - moreI p c * halfI p
def ptE (p l c : Int) : Int := l + moreI p c
theorem halfI_pos (p : Int) : 0 < halfI p := Int.pow_pos (by decide)
theorem halfI_two {p : Int} (h : 1 ≤ p) : (2 : Int) ^ p.toNat = 2 * halfI p := by
  unfold halfI
  rw [show p.toNat = (p - 1).toNat + 1 by omega, Int.pow_succ, Int.mul_comm]
theorem halfI_bits {p : Int} (h : p ≤ 128) : (halfI p).natAbs < 2 ^ 128 := by
  unfold halfI
  rw [Int.natAbs_pow]
  exact Nat.pow_lt_pow_right (by decide) (by omega)
theorem half_rng {p c : Int} (h : 0 ≤ c) : 0 ≤ moreI p c ∧ 0 ≤ ptM p c ∧ ptM p c < 2 * halfI p := by
  have hp := halfI_pos p
  have a := Int.emod_nonneg c (show halfI p ≠ 0 by omega)
  have b := Int.emod_lt_of_pos c hp
  have e := Int.mul_ediv_add_emod c (halfI p)
  have q0 : 0 ≤ c / halfI p := Int.ediv_nonneg h (by omega)
  unfold ptM moreI
  generalize halfI p = H at *
  generalize c / H = q at *
  split
  · rw [Int.sub_mul, Int.one_mul, Int.mul_comm q H]
    omega
  · rcases (show q = 0 ∨ q = 1 by omega) with rfl | rfl
    · rw [Int.mul_zero] at e; omega
    · rw [Int.mul_one] at e; omega
theorem more_top {p l h c : Int} (lh : l ≤ h) (h0 : 0 ≤ c) (hc : c < cntI p l h) : moreI p c ≤ h - l := by
  have hp := halfI_pos p
  have := Int.ediv_lt_of_lt_mul hp (show c < (h - l + 2) * halfI p from hc)
  unfold moreI
  split <;> omega
theorem cnt_bits {p l h : Int} (f : Fm p l h) : (cntI p l h).natAbs < 2 ^ 140 := mul_pow (k := 12) (l := 128) (by have := f.l0; have := f.h1; have := f.lh; omega) (halfI_bits f.p1)
theorem cnt_pos {p l h : Int} (f : Fm p l h) : 2 ≤ cntI p l h := by
  have hp := halfI_pos p
  unfold cntI
  have := Int.mul_le_mul_of_nonneg_right (show (2 : Int) ≤ h - l + 2 by have := f.lh; omega) (Int.le_of_lt hp)
  omega
def AtM (num den s : Int) : Prop := den * P2 s ≤ num * P2 (-s)
theorem atM_shift {num den s : Int} (k : Nat) : AtM num den (s + k) ↔ 2 ^ k * (den * P2 s) ≤ num * P2 (-s) := by
  unfold AtM
  have h1 := P2_pos (-s)
  have h2 := P2_pos (-(s + k))
  have e := P2_shift s k
  constructor
  · intro h
    have h3 := Int.mul_le_mul_of_nonneg_right h (Int.le_of_lt h1)
    rw [Int.mul_assoc, e] at h3
    refine Int.le_of_mul_le_mul_right (a := P2 (-(s + k))) ?_ h2
    have e1 : 2 ^ k * (den * P2 s) * P2 (-(s + k)) = den * (2 ^ k * (P2 s * P2 (-(s + k)))) := by
      rw [Int.mul_assoc, Int.mul_assoc, Int.mul_left_comm]
    have e2 : num * P2 (-s) * P2 (-(s + k)) = num * P2 (-(s + k)) * P2 (-s) := by
      rw [Int.mul_assoc, Int.mul_comm (P2 (-s)), ← Int.mul_assoc]
    rw [e1, e2]
    exact h3
  · intro h
    have h3 := Int.mul_le_mul_of_nonneg_right h (Int.le_of_lt h2)
    refine Int.le_of_mul_le_mul_right (a := P2 (-s)) ?_ h1
    rw [Int.mul_assoc den, e]
    have e1 : 2 ^ k * (den * P2 s) * P2 (-(s + k)) = den * (2 ^ k * (P2 s * P2 (-(s + k)))) := by
      rw [Int.mul_assoc, Int.mul_assoc, Int.mul_left_comm]
    have e2 : num * P2 (-s) * P2 (-(s + k)) = num * P2 (-(s + k)) * P2 (-s) := by
      rw [Int.mul_assoc, Int.mul_comm (P2 (-s)), ← Int.mul_assoc]
    rw [← e1, ← e2]
    exact h3
theorem AtM.down {num den s t : Int} (hd : 0 < den) (h : AtM num den t) (l : s ≤ t) : AtM num den s := by
  obtain ⟨k, rfl⟩ : ∃ k : Nat, t = s + k := ⟨(t - s).toNat, by omega⟩
  have h2 := (atM_shift k).mp h
  unfold AtM
  have h3 : 0 ≤ den * P2 s := Int.mul_nonneg (by omega) (Int.le_of_lt (P2_pos s))
  have h4 : (1 : Int) ≤ 2 ^ k := Int.pow_pos (by decide)
  have h5 := Int.mul_le_mul_of_nonneg_right h4 h3
  rw [Int.one_mul] at h5
  omega
def FL (num den t : Int) : Prop := AtM num den t ∧ ¬ AtM num den (t + 1)
theorem FL.uniq {num den s t : Int} (hd : 0 < den) (h : FL num den s) (g : FL num den t) : s = t := by
  by_cases l : s < t
  · exact absurd (g.1.down hd (show s + 1 ≤ t by omega)) h.2
  · by_cases l2 : t < s
    · exact absurd (h.1.down hd (show t + 1 ≤ s by omega)) g.2
    · omega
theorem FL.cut {num den t : Int} {bits : Nat} (h : FL num den t) (hb : 0 < bits) : 2 ^ (bits - 1) * (den * P2 (t - bits + 1)) ≤ num * P2 (-(t - bits + 1)) ∧ num * P2 (-(t - bits + 1)) < 2 ^ bits * (den * P2 (t - bits + 1)) := by
  refine ⟨(atM_shift (bits - 1)).mp ?_, ?_⟩
  · rw [show t - bits + 1 + ((bits - 1 : Nat) : Int) = t by omega]
    exact h.1
  · have h2 : ¬ 2 ^ bits * (den * P2 (t - bits + 1)) ≤ num * P2 (-(t - bits + 1)) := fun z => h.2 (by
      have := (atM_shift (num := num) (den := den) (s := t - bits + 1) bits).mpr z
      rw [show t - bits + 1 + (bits : Int) = t + 1 by omega] at this
      exact this)
    omega
theorem intBits_lo {n : Int} (h : 0 < n) : (2 : Int) ^ (Builtin.Int.intBits n - 1) ≤ n ∧ 0 < Builtin.Int.intBits n ∧ n < 2 ^ Builtin.Int.intBits n := by
  unfold Builtin.Int.intBits
  rw [if_neg (by simp; omega)]
  have h1 : n.natAbs ≠ 0 := by omega
  have h2 := Nat.log2_self_le h1
  have h3 := Nat.lt_log2_self (n := n.natAbs)
  have e1 : ((2 ^ n.natAbs.log2 : Nat) : Int) = 2 ^ n.natAbs.log2 := by rw [Int.natCast_pow]; rfl
  have e2 : ((2 ^ (n.natAbs.log2 + 1) : Nat) : Int) = 2 ^ (n.natAbs.log2 + 1) := by rw [Int.natCast_pow]; rfl
  refine ⟨?_, by omega, ?_⟩
  · rw [Nat.add_sub_cancel, ← e1]; omega
  · rw [← e2]; omega
theorem FL_of {num den : Int} (hn : 0 < num) (hd : 0 < den) (t : Int) (ht : t = (Builtin.Int.intBits num : Int) - (Builtin.Int.intBits den : Int)) : (AtM num den t → FL num den t) ∧ (¬ AtM num den t → FL num den (t - 1)) := by
  obtain ⟨n1, n2, n3⟩ := intBits_lo hn
  obtain ⟨d1, d2, d3⟩ := intBits_lo hd
  revert n1 n2 n3 d1 d2 d3 ht
  generalize Builtin.Int.intBits num = bn
  generalize Builtin.Int.intBits den = bd
  intro ht n1 n2 n3 d1 d2 d3
  constructor
  · intro h
    refine ⟨h, fun g => ?_⟩
    unfold AtM at g
    have e := P2_nat bn (bd - 1)
    rw [show (bn : Int) - ((bd - 1 : Nat) : Int) = t + 1 by omega] at e
    have h1 := Int.mul_lt_mul_of_pos_right n3 (P2_pos (-(t + 1)))
    have h2 := Int.mul_le_mul_of_nonneg_right d1 (Int.le_of_lt (P2_pos (t + 1)))
    omega
  · intro h
    refine ⟨?_, by rw [show t - 1 + 1 = t by omega]; exact h⟩
    unfold AtM
    have e := P2_nat (bn - 1) bd
    rw [show ((bn - 1 : Nat) : Int) - (bd : Int) = t - 1 by omega] at e
    have h1 := Int.mul_le_mul_of_nonneg_right n1 (Int.le_of_lt (P2_pos (-(t - 1))))
    have h2 := Int.mul_lt_mul_of_pos_right d3 (P2_pos (t - 1))
    omega
def flogF (num den : Int) : Int := if den * P2 ((Builtin.Int.intBits num : Int) - (Builtin.Int.intBits den : Int)) ≤ num * P2 (-((Builtin.Int.intBits num : Int) - (Builtin.Int.intBits den : Int))) then (Builtin.Int.intBits num : Int) - (Builtin.Int.intBits den : Int) else (Builtin.Int.intBits num : Int) - (Builtin.Int.intBits den : Int) - 1
def cutS (num den : Int) (bits : Nat) : Int := flogF num den - bits + 1
def CutQ (num den : Int) (bits : Nat) (g s : Int) : Prop := 2 ^ (bits - 1) ≤ g ∧ g < 2 ^ bits ∧ g * (den * P2 s) ≤ num * P2 (-s) ∧ num * P2 (-s) < (g + 1) * (den * P2 s)
theorem CutQ.uniq {num den : Int} {bits : Nat} {g s g' s' : Int} (hd : 0 < den) (hb : 0 < bits) (h : CutQ num den bits g s) (k : CutQ num den bits g' s') : g = g' ∧ s = s' := by
  have fl : ∀ {g s}, CutQ num den bits g s → FL num den (s + (bits - 1 : Nat)) := fun {g s} c => by
    have dpos : 0 < den * P2 s := Int.mul_pos hd (P2_pos _)
    obtain ⟨c1, c2, c3, c4⟩ := c
    refine ⟨(atM_shift _).mpr (Int.le_trans (Int.mul_le_mul_of_nonneg_right c1 (Int.le_of_lt dpos)) c3), fun z => ?_⟩
    have z2 := (atM_shift (num := num) (den := den) (s := s) bits).mp (by rw [show s + ((bits - 1 : Nat) : Int) + 1 = s + (bits : Int) by omega] at z; exact z)
    have z3 : (g + 1) * (den * P2 s) ≤ 2 ^ bits * (den * P2 s) := Int.mul_le_mul_of_nonneg_right (by omega) (Int.le_of_lt dpos)
    omega
  have es : s = s' := by
    have := (fl h).uniq hd (fl k)
    omega
  subst es
  have dpos : 0 < den * P2 s := Int.mul_pos hd (P2_pos _)
  obtain ⟨_, _, h3, h4⟩ := h
  obtain ⟨_, _, k3, k4⟩ := k
  have a1 : g < g' + 1 := Int.lt_of_mul_lt_mul_right (a := den * P2 s) (by omega) (Int.le_of_lt dpos)
  have a2 : g' < g + 1 := Int.lt_of_mul_lt_mul_right (a := den * P2 s) (by omega) (Int.le_of_lt dpos)
  exact ⟨by omega, rfl⟩
theorem CutQ.more {num den : Int} {bits : Nat} {g s g' s' : Int} (hd : 0 < den) (hb : 0 < bits) (h : CutQ num den bits g s) (k : CutQ num den (bits + 1) g' s') : s' = s - 1 ∧ (g' = 2 * g ∨ g' = 2 * g + 1) := by
  have fl : ∀ {b : Nat} {g s}, 0 < b → CutQ num den b g s → FL num den (s + (b - 1 : Nat)) := fun {b g s} hb c => by
    have dpos : 0 < den * P2 s := Int.mul_pos hd (P2_pos _)
    obtain ⟨c1, c2, c3, c4⟩ := c
    refine ⟨(atM_shift _).mpr (Int.le_trans (Int.mul_le_mul_of_nonneg_right c1 (Int.le_of_lt dpos)) c3), fun z => ?_⟩
    have z2 := (atM_shift (num := num) (den := den) (s := s) b).mp (by rw [show s + ((b - 1 : Nat) : Int) + 1 = s + (b : Int) by omega] at z; exact z)
    have z3 : (g + 1) * (den * P2 s) ≤ 2 ^ b * (den * P2 s) := Int.mul_le_mul_of_nonneg_right (by omega) (Int.le_of_lt dpos)
    omega
  have es : s = s' + 1 := by
    have := (fl hb h).uniq hd (fl (Nat.succ_pos _) k)
    omega
  subst es
  have dpos : 0 < den * P2 s' := Int.mul_pos hd (P2_pos _)
  obtain ⟨_, _, h3, h4⟩ := h
  obtain ⟨_, _, k3, k4⟩ := k
  have sh : ∀ G : Int, G * (den * P2 (s' + 1)) ≤ num * P2 (-(s' + 1)) ↔ 2 * G * (den * P2 s') ≤ num * P2 (-s') := fun G => by
    have := atM_shift (num := num) (den := G * den) (s := s') 1
    unfold AtM at this
    rw [show s' + ((1 : Nat) : Int) = s' + 1 by omega, show (2 : Int) ^ 1 = 2 by rfl] at this
    simp only [Int.mul_assoc] at this ⊢
    exact this
  have u1 := (sh g).mp h3
  have u2 : ¬ 2 * (g + 1) * (den * P2 s') ≤ num * P2 (-s') := fun z => by have := (sh (g + 1)).mpr z; omega
  have a1 : 2 * g < g' + 1 := Int.lt_of_mul_lt_mul_right (a := den * P2 s') (by omega) (Int.le_of_lt dpos)
  have a2 : g' < 2 * (g + 1) := Int.lt_of_mul_lt_mul_right (a := den * P2 s') (by omega) (Int.le_of_lt dpos)
  exact ⟨by omega, by omega⟩
theorem CutQ.g0 {num den : Int} {bits : Nat} {g s : Int} (h : CutQ num den bits g s) : 1 ≤ g := by
  have h1 : (0 : Int) < 2 ^ (bits - 1) := Int.pow_pos (by decide)
  have := h.1
  omega
structure ExpAt (p l h num den e : Int) : Prop where
  lo : l ≤ e
  hi : e ≤ h
  up : e < h → ¬ AtM num den (p + e)
  dn : l < e → AtM num den (p + e - 1)
theorem ExpAt.uniq {p l h num den e e' : Int} (hd : 0 < den) (x : ExpAt p l h num den e) (y : ExpAt p l h num den e') : e = e' := by
  by_cases a : e < e'
  · exact absurd ((y.dn (by have := x.lo; omega)).down hd (show p + e ≤ p + e' - 1 by omega)) (x.up (by have := y.hi; omega))
  · by_cases b : e' < e
    · exact absurd ((x.dn (by have := y.lo; omega)).down hd (show p + e' ≤ p + e - 1 by omega)) (y.up (by have := x.hi; omega))
    · omega
abbrev posN (p l num den e : Int) : Int := (e - l) * halfI p * (den * P2 e) + num * P2 (-e)
abbrev posW (den e : Int) : Int := den * P2 e
def uV (p c : Int) : Int := ptM p c * P2 (moreI p c + 1)
theorem uV_nn {p c : Int} (h : 0 ≤ c) : 0 ≤ uV p c := Int.mul_nonneg (half_rng h).2.1 (Int.le_of_lt (P2_pos _))
theorem P2_succ {s : Int} (h : 0 ≤ s) : P2 (s + 1) = 2 * P2 s := by
  unfold P2
  rw [show (s + 1).toNat = s.toNat + 1 by omega, Int.pow_succ, Int.mul_comm]
theorem more_lo {p c : Int} (h : 0 ≤ c) (m : 0 < moreI p c) : halfI p ≤ ptM p c := by
  have hp := halfI_pos p
  have a := Int.emod_nonneg c (show halfI p ≠ 0 by omega)
  have e := Int.mul_ediv_add_emod c (halfI p)
  unfold ptM
  unfold moreI at m ⊢
  generalize halfI p = H at *
  generalize c / H = q at *
  by_cases z : q - 1 > 0
  · rw [if_pos z, Int.sub_mul, Int.one_mul, Int.mul_comm q H]
    omega
  · rw [if_neg z] at m
    omega
theorem next_cases {p c : Int} (h : 0 ≤ c) : (moreI p (c + 1) = moreI p c ∧ ptM p (c + 1) = ptM p c + 1) ∨ (moreI p (c + 1) = moreI p c + 1 ∧ ptM p (c + 1) = halfI p ∧ ptM p c + 1 = 2 * halfI p) := by
  have hp := halfI_pos p
  have a := Int.emod_nonneg c (show halfI p ≠ 0 by omega)
  have b := Int.emod_lt_of_pos c hp
  have e := Int.mul_ediv_add_emod c (halfI p)
  have q0 : 0 ≤ c / halfI p := Int.ediv_nonneg h (by omega)
  unfold ptM moreI
  generalize halfI p = H at *
  generalize c % H = r at *
  generalize hq : c / H = q at *
  by_cases z : r + 1 < H
  · have e2 : (c + 1) / H = q := by
      rw [show c + 1 = (r + 1) + H * q by omega, Int.add_mul_ediv_left _ _ (by omega), Int.ediv_eq_zero_of_lt (by omega) z]
      omega
    rw [e2]
    exact .inl ⟨rfl, by omega⟩
  · have e2 : (c + 1) / H = q + 1 := by
      rw [show c + 1 = H * (q + 1) by rw [Int.mul_add, Int.mul_one]; omega, Int.mul_ediv_cancel_left _ (by omega)]
    rw [e2]
    by_cases y : q = 0
    · subst y
      rw [Int.mul_zero] at e
      exact .inl ⟨rfl, by rw [if_neg (by omega), if_neg (by omega)]; omega⟩
    · refine .inr ?_
      have t : q * H = H * q := Int.mul_comm ..
      by_cases x : q - 1 > 0
      · rw [if_pos (by omega), if_pos x]
        refine ⟨by omega, ?_, ?_⟩
        · rw [show q + 1 - 1 = q by omega, t]; omega
        · rw [Int.sub_mul, Int.one_mul, t]; omega
      · obtain rfl : q = 1 := by omega
        rw [if_pos (by omega), if_neg x]
        rw [Int.mul_one] at e
        refine ⟨by omega, ?_, ?_⟩
        · rw [show (1 : Int) + 1 - 1 = 1 by omega, Int.one_mul]; omega
        · omega
theorem uV_next {p c : Int} (h : 0 ≤ c) : uV p (c + 1) = (ptM p c + 1) * P2 (moreI p c + 1) := by
  unfold uV
  have m0 := (half_rng (p := p) h).1
  rcases next_cases (p := p) h with ⟨a, b⟩ | ⟨a, b, d⟩
  · rw [a, b]
  · rw [a, b, d, P2_succ (show 0 ≤ moreI p c + 1 by omega), Int.mul_assoc, Int.mul_left_comm]
theorem uV_lt {p c : Int} (h : 0 ≤ c) : uV p (c + 1) = uV p c + P2 (moreI p c + 1) := by
  rw [uV_next h, Int.add_mul, Int.one_mul]
  rfl
theorem more_le {p c : Int} (h : 0 ≤ c) : moreI p (c + 1) ≤ moreI p c + 1 := by
  rcases next_cases (p := p) h with ⟨a, b⟩ | ⟨a, b, d⟩ <;> omega
theorem uV_pos {p c : Int} (h : 0 < c) : 0 < uV p c := by
  have := uV_lt (p := p) (show 0 ≤ c - 1 by omega)
  rw [show c - 1 + 1 = c by omega] at this
  have a := uV_nn (p := p) (show 0 ≤ c - 1 by omega)
  have b := P2_pos (moreI p (c - 1) + 1)
  omega
theorem more_room {p l h c : Int} (h0 : 0 ≤ c) (g : moreI p c < h - l) : c + 1 < cntI p l h := by
  obtain ⟨a, b, d⟩ := half_rng (p := p) h0
  have hp := halfI_pos p
  have e : c = moreI p c * halfI p + ptM p c := by unfold ptM; omega
  have k := Int.mul_le_mul_of_nonneg_right (show moreI p c + 1 ≤ h - l by omega) (Int.le_of_lt hp)
  unfold cntI
  rw [Int.add_mul] at k ⊢
  rw [Int.one_mul] at k
  omega
structure FlAt (p l h A B c : Int) : Prop where
  c0 : 0 ≤ c
  c1 : c < cntI p l h
  lo : uV p c * B ≤ A
  up : c + 1 < cntI p l h → A < uV p (c + 1) * B
theorem fl_go {p l h A B : Int} : ∀ (k : Nat) (c : Int), 0 ≤ c → uV p c * B ≤ A → c + k = cntI p l h - 1 → ∃ c', FlAt p l h A B c'
  | 0, c, h0, h1, h2 => ⟨c, h0, by omega, h1, fun z => by omega⟩
  | k + 1, c, h0, h1, h2 => by
    by_cases z : A < uV p (c + 1) * B
    · exact ⟨c, h0, by omega, h1, fun _ => z⟩
    · exact fl_go k (c + 1) (by omega) (by omega) (by omega)
theorem fl_exists {p l h A B : Int} (f : Fm p l h) (hA : 0 ≤ A) : ∃ c, FlAt p l h A B c := by
  have := cnt_pos f
  refine fl_go (cntI p l h - 1).toNat 0 (Int.le_refl _) ?_ (by omega)
  have : uV p 0 = 0 := by
    obtain ⟨a, b, d⟩ := half_rng (p := p) (Int.le_refl 0)
    have e : ptM p 0 = 0 := by
      unfold ptM moreI
      rw [Int.zero_ediv, if_neg (by decide), Int.zero_mul]
      rfl
    unfold uV
    rw [e, Int.zero_mul]
  rw [this, Int.zero_mul]
  exact hA
abbrev unA (num l : Int) : Int := num * P2 (1 - l)
abbrev unB (den l : Int) : Int := den * P2 (l - 1)
theorem FlAt.exp {p l h num den c : Int} (f : Fm p l h) (d0 : 0 < den) (x : FlAt p l h (unA num l) (unB den l) c) : ExpAt p l h num den (ptE p l c) := by
  obtain ⟨m0, m1, m2⟩ := half_rng (p := p) x.c0
  have hp := halfI_pos p
  have B0 : 0 < unB den l := Int.mul_pos d0 (P2_pos _)
  have p0 := f.p0
  have t := more_top f.lh x.c0 x.c1
  refine ⟨by unfold ptE; omega, by unfold ptE; omega, fun g => ?_, fun g => ?_⟩
  · have g : moreI p c < h - l := by unfold ptE at g; omega
    have u := x.up (more_room x.c0 g)
    rw [uV_next x.c0] at u
    intro y
    have y := (atM_shift (num := num) (den := den) (s := l - 1) (p + moreI p c + 1).toNat).mp (by rw [show l - 1 + ((p + moreI p c + 1).toNat : Int) = p + ptE p l c by unfold ptE; omega]; exact y)
    rw [show -(l - 1) = 1 - l by omega] at y
    have e : (2 : Int) ^ (p + moreI p c + 1).toNat = 2 * halfI p * P2 (moreI p c + 1) := by
      rw [← halfI_two p0]
      unfold P2
      rw [← Int.pow_add]
      congr 1
      omega
    rw [e] at y
    have k := Int.mul_le_mul_of_nonneg_right (Int.mul_le_mul_of_nonneg_right (show ptM p c + 1 ≤ 2 * halfI p by omega) (Int.le_of_lt (P2_pos (moreI p c + 1)))) (Int.le_of_lt B0)
    exact Int.lt_irrefl _ (Int.lt_of_lt_of_le u (Int.le_trans k y))
  · have g : 0 < moreI p c := by unfold ptE at g; omega
    have y := more_lo x.c0 g
    have e : (2 : Int) ^ (p + moreI p c).toNat = halfI p * P2 (moreI p c + 1) := by
      unfold P2 halfI
      rw [← Int.pow_add]
      congr 1
      omega
    have k := Int.mul_le_mul_of_nonneg_right (Int.mul_le_mul_of_nonneg_right y (Int.le_of_lt (P2_pos (moreI p c + 1)))) (Int.le_of_lt B0)
    have z := (atM_shift (num := num) (den := den) (s := l - 1) (p + moreI p c).toNat).mpr (by
      rw [e, show -(l - 1) = 1 - l by omega]
      exact Int.le_trans k x.lo)
    rw [show l - 1 + ((p + moreI p c).toNat : Int) = p + ptE p l c - 1 by unfold ptE; omega] at z
    exact z
theorem scl (num den l : Int) (k : Nat) (e : Int) (he : e = l - 1 + k) (d0 : 0 < den) : ∃ G F, 0 < G ∧ 0 < F ∧ num * P2 (-e) * G = unA num l * F ∧ den * P2 e * G = 2 ^ k * unB den l * F := by
  have s := P2_shift (l - 1) k
  rw [← he, show -(l - 1) = 1 - l by omega] at s
  refine ⟨2 ^ k * P2 (l - 1), P2 e, Int.mul_pos (Int.pow_pos (by decide)) (P2_pos _), P2_pos _, ?_, ?_⟩
  · rw [show num * P2 (-e) * (2 ^ k * P2 (l - 1)) = num * (2 ^ k * (P2 (l - 1) * P2 (-e))) by
      rw [Int.mul_assoc, Int.mul_comm (P2 (-e)), Int.mul_assoc]]
    rw [← s]
    unfold unA
    rw [Int.mul_comm (P2 e), Int.mul_assoc]
  · unfold unB
    rw [Int.mul_assoc den, Int.mul_comm (P2 e), ← Int.mul_assoc den, Int.mul_left_comm den]
theorem pos_at {p l h num den c e : Int} (f : Fm p l h) (d0 : 0 < den) (x : FlAt p l h (unA num l) (unB den l) c) (y : ExpAt p l h num den e) : 0 < posW den e ∧ c * posW den e ≤ posN p l num den e ∧ (c * posW den e = posN p l num den e ↔ unA num l = uV p c * unB den l) ∧ (c + 1 < cntI p l h → posN p l num den e < (c + 1) * posW den e) := by
  obtain rfl := y.uniq d0 (x.exp f d0)
  have W0 : 0 < posW den (ptE p l c) := Int.mul_pos d0 (P2_pos _)
  obtain ⟨m0, m1, m2⟩ := half_rng (p := p) x.c0
  obtain ⟨G, F, g0, f0, e1, e2⟩ := scl num den l (moreI p c + 1).toNat (ptE p l c) (by unfold ptE; omega) d0
  have ec : c = moreI p c * halfI p + ptM p c := by unfold ptM; omega
  have en : posN p l num den (ptE p l c) = moreI p c * halfI p * posW den (ptE p l c) + num * P2 (-(ptE p l c)) := by
    unfold posN
    rw [show ptE p l c - l = moreI p c by unfold ptE; omega]
  have key : ∀ k : Int, k * posW den (ptE p l c) * G = k * P2 (moreI p c + 1) * unB den l * F := fun k => by
    unfold posW
    rw [Int.mul_assoc k, e2]
    unfold P2
    rw [Int.mul_assoc k, Int.mul_assoc k]
  have lo := x.lo
  have up := x.up
  rw [uV_next x.c0] at up
  unfold uV at lo ⊢
  revert W0 ec en key e1 lo up
  generalize posW den (ptE p l c) = W
  generalize posN p l num den (ptE p l c) = N
  generalize num * P2 (-(ptE p l c)) = X
  generalize unA num l = A
  generalize unB den l = B
  generalize moreI p c * halfI p = T
  generalize ptM p c = m
  generalize P2 (moreI p c + 1) = g
  intro W0 e1 ec en key lo up
  have cm : ∀ k : Int, (T + k) * W = T * W + k * W := fun k => Int.add_mul ..
  refine ⟨W0, ?_, ?_, fun z => ?_⟩
  · have a := Int.mul_le_mul_of_nonneg_right lo (Int.le_of_lt f0)
    rw [← key, ← e1] at a
    have b := Int.le_of_mul_le_mul_right a g0
    rw [ec, cm]
    omega
  · rw [ec, cm]
    constructor
    · intro z
      have z : m * W = X := by omega
      have a := key m
      rw [z, e1] at a
      exact Int.eq_of_mul_eq_mul_right (by omega) a
    · intro z
      have a := key m
      rw [← z, ← e1] at a
      have := Int.eq_of_mul_eq_mul_right (by omega) a
      omega
  · have a := Int.mul_lt_mul_of_pos_right (up z) f0
    rw [← key, ← e1] at a
    have b := Int.lt_of_mul_lt_mul_right a (Int.le_of_lt g0)
    rw [ec, show T + m + 1 = T + (m + 1) by omega, cm]
    omega
theorem P10_b {s : Int} (n m : Nat) (h : s ≤ n) (hm : 4 * n + 1 ≤ m) : (P10 s).natAbs < 2 ^ m := Nat.lt_of_lt_of_le (P10_bits s n h) (Nat.pow_le_pow_right (by decide) hm)
theorem P2_max (s : Int) : (2 : Int) ^ (if s > 0 then s else 0).toNat = P2 s := by
  unfold P2
  congr 1
  split <;> omega
theorem div_at {N W c : Int} (W0 : 0 < W) (lo : c * W ≤ N) (up : N < (c + 1) * W) : N / W = c := by
  have a := (Int.le_ediv_iff_mul_le W0).mpr lo
  have b := Int.ediv_lt_of_lt_mul W0 up
  omega
theorem ceil_at {N W c : Int} (W0 : 0 < W) (lo : c * W < N) (up : N ≤ (c + 1) * W) : -(-N / W) = c + 1 := by
  have e1 : (-(c + 1)) * W = -((c + 1) * W) := Int.neg_mul ..
  have e2 : (-c) * W = -(c * W) := Int.neg_mul ..
  have := div_at (N := -N) (W := W) (c := -(c + 1)) W0 (by omega) (by rw [show -(c + 1) + 1 = -c by omega]; omega)
  omega
theorem ceil_ge {N W c : Int} (W0 : 0 < W) (lo : c * W < N) : c + 1 ≤ -(-N / W) := by
  have e2 : (-c) * W = -(c * W) := Int.neg_mul ..
  have := Int.ediv_lt_of_lt_mul W0 (show -N < (-c) * W by omega)
  omega
theorem ceil_eq {N W c : Int} (W0 : 0 < W) (h : c * W = N) : -(-N / W) = c := by
  have e2 : (-c) * W = -(c * W) := Int.neg_mul ..
  have := div_at (N := -N) (W := W) (c := -c) W0 (by omega) (by rw [Int.add_mul, Int.one_mul]; omega)
  omega
theorem posN_bits {p l h num den e : Int} {a : Nat} (f : Fm p l h) (x : ExpAt p l h num den e) (hn : num.natAbs < 2 ^ a) (hd : den.natAbs < 2 ^ a) : (posN p l num den e).natAbs < 2 ^ (a + 1342) ∧ (posW den e).natAbs < 2 ^ (a + 1201) := by
  have l0 := f.l0
  have h1 := f.h1
  have e0 := x.lo
  have e1 := x.hi
  have Wb : (den * P2 e).natAbs < 2 ^ (a + 1201) := mul_pow hd (P2_bits e 1200 (by omega))
  have Nb : (num * P2 (-e)).natAbs < 2 ^ (a + 1201) := mul_pow hn (P2_bits (-e) 1200 (by omega))
  refine ⟨?_, Wb⟩
  refine add_pow (k := a + 1341) ?_ (Nat.lt_of_lt_of_le Nb (Nat.pow_le_pow_right (by decide) (by omega)))
  have := mul_pow (mul_pow (i := e - l) (k := 12) (l := 128) (by omega) (halfI_bits f.p1)) Wb
  exact Nat.lt_of_lt_of_le this (Nat.pow_le_pow_right (by decide) (by omega))
def Plain (d q d' q' : Int) : Prop := (d = 0 ∧ d' = 0 ∧ q' = 0) ∨ (d ≠ 0 ∧ d' % 10 ≠ 0 ∧ ∃ k : Nat, d = d' * 10 ^ k ∧ q' = q + k)
theorem plain_aux {a b : Int} : ∀ {k l : Nat}, a % 10 ≠ 0 → a * 10 ^ k = b * 10 ^ l → l ≤ k
  | k, 0, _, _ => Nat.zero_le _
  | 0, l + 1, ha, e => by
    rw [Int.pow_zero, Int.mul_one, Int.pow_succ, ← Int.mul_assoc] at e
    exact absurd (by rw [e]; exact Int.mul_emod_left _ _) ha
  | k + 1, l + 1, ha, e => by
    have e2 : a * 10 ^ k = b * 10 ^ l := by
      rw [Int.pow_succ, Int.pow_succ, ← Int.mul_assoc, ← Int.mul_assoc] at e
      exact Int.eq_of_mul_eq_mul_right (by decide) e
    exact Nat.succ_le_succ (plain_aux ha e2)
theorem Plain.uniq {d q a b a' b' : Int} (h : Plain d q a b) (g : Plain d q a' b') : a = a' ∧ b = b' := by
  rcases h with ⟨z, rfl, rfl⟩ | ⟨z, m, k, e, f⟩
  · rcases g with ⟨_, rfl, rfl⟩ | ⟨z2, _⟩
    · exact ⟨rfl, rfl⟩
    · exact absurd z z2
  · rcases g with ⟨z2, _⟩ | ⟨_, m2, l, e2, f2⟩
    · exact absurd z2 z
    · have e3 : a * 10 ^ k = a' * 10 ^ l := e.symm.trans e2
      have h1 := plain_aux m e3
      have h2 := plain_aux m2 e3.symm
      obtain rfl : k = l := by omega
      refine ⟨Int.eq_of_mul_eq_mul_right (Int.ne_of_gt (Int.pow_pos (by decide))) e3, by omega⟩
theorem Plain.abs {d q a b : Int} (h : Plain d q a b) : a.natAbs ≤ d.natAbs := by
  rcases h with ⟨rfl, rfl, rfl⟩ | ⟨z, m, k, rfl, f⟩
  · exact Nat.le_refl _
  · rw [Int.natAbs_mul]
    exact Nat.le_mul_of_pos_right _ (Int.natAbs_pos.mpr (Int.ne_of_gt (Int.pow_pos (by decide))))
theorem Plain.step {d q : Int} (d0 : d ≠ 0) (h : d % 10 = 0) {a b : Int} (g : Plain (d / 10) (q + 1) a b) : Plain d q a b := by
  have e := Int.mul_ediv_add_emod d 10
  rcases g with ⟨z, _⟩ | ⟨z, m, k, e2, f⟩
  · omega
  · refine .inr ⟨d0, m, k + 1, ?_, by omega⟩
    rw [Int.pow_succ, ← Int.mul_assoc, ← e2]
    omega
def nearI (n d : Int) : Int := n / d + (if 2 * (n % d) > d ∨ (2 * (n % d) = d ∧ n / d % 2 = 1) then 1 else 0)
theorem divOkX {i j : Int} (b : Nat) (h : 0 < j) (hb : i.natAbs < 2 ^ b) (h9 : b ≤ 13500) : DivOk i j := by
  refine ⟨h, ?_⟩
  unfold Builtin.divisionGoesByPylong
  have k : (if (i == 0) = true then 0 else i.natAbs.log2 / 30 + 1) ≤ 450 := by
    split
    · decide
    · next hz =>
      have z : i.natAbs ≠ 0 := fun e => hz (by rw [Int.natAbs_eq_zero.mp e]; rfl)
      have := (Nat.log2_lt z).mpr (Nat.lt_of_lt_of_le hb (Nat.pow_le_pow_right (by decide) h9))
      omega
  have key : ∀ x y : Nat, x ≤ 450 → (decide (y > 300) && decide (x > y + 150)) = false := fun x y h => by
    rw [Bool.and_eq_false_iff, decide_eq_false_iff_not, decide_eq_false_iff_not]
    omega
  exact key _ _ k
theorem uV_mono {p : Int} : ∀ (k : Nat) {c : Int}, 0 ≤ c → uV p c + k ≤ uV p (c + k)
  | 0, c, h => by rw [Int.natCast_zero, Int.add_zero, Int.add_zero]; exact Int.le_refl _
  | k + 1, c, h => by
    have a := uV_mono (p := p) k h
    have b := uV_lt (p := p) (show 0 ≤ c + k by omega)
    have g := P2_pos (moreI p (c + k) + 1)
    rw [show c + ((k + 1 : Nat) : Int) = c + k + 1 by omega, b]
    omega
theorem uV_le {p a b : Int} (h : 0 ≤ a) (g : a ≤ b) : uV p a ≤ uV p b := by
  have := uV_mono (p := p) (b - a).toNat h
  rw [show a + ((b - a).toNat : Int) = b by omega] at this
  omega
theorem FlAt.uniq {p l h A B c c' : Int} (B0 : 0 < B) (x : FlAt p l h A B c) (y : FlAt p l h A B c') : c = c' := by
  have key : ∀ {c c' : Int}, FlAt p l h A B c → FlAt p l h A B c' → ¬ c < c' := fun {c c'} x y g => by
    have up := x.up (by have := y.c1; omega)
    have a := Int.mul_le_mul_of_nonneg_right (uV_le (p := p) (show 0 ≤ c + 1 by have := x.c0; omega) (show c + 1 ≤ c' by omega)) (Int.le_of_lt B0)
    have lo := y.lo
    omega
  have a := key x y
  have b := key y x
  omega
theorem P2_sum {a b : Int} (ha : 0 ≤ a) (hb : 0 ≤ b) : P2 (a + b) = P2 a * P2 b := by
  unfold P2
  rw [← Int.pow_add]
  congr 1
  omega
theorem pt_of {p g f : Int} (g0 : 0 ≤ g) (f0 : 0 ≤ f) (f1 : f < 2 * halfI p) (h : g = 0 ∨ halfI p ≤ f) : moreI p (g * halfI p + f) = g ∧ ptM p (g * halfI p + f) = f := by
  have hp := halfI_pos p
  have e : (g * halfI p + f) / halfI p = g + f / halfI p := by rw [Int.add_comm, Int.add_mul_ediv_right _ _ (by omega), Int.add_comm]
  have m : moreI p (g * halfI p + f) = g := by
    unfold moreI
    rw [e]
    by_cases z : f < halfI p
    · rw [Int.ediv_eq_zero_of_lt f0 z]
      split <;> omega
    · have : f / halfI p = 1 := by
        have a := (Int.le_ediv_iff_mul_le hp).mpr (show 1 * halfI p ≤ f by omega)
        have b := Int.ediv_lt_of_lt_mul hp f1
        omega
      rw [this]
      split <;> omega
  refine ⟨m, ?_⟩
  unfold ptM
  rw [m]
  omega
theorem posN_nn {p l h n d e : Int} (f : Fm p l h) (x : ExpAt p l h n d e) (n0 : 0 ≤ n) (d0 : 0 < d) : 0 ≤ posN p l n d e := by
  have := x.lo
  have h1 : 0 ≤ (e - l) * halfI p := Int.mul_nonneg (by omega) (Int.le_of_lt (halfI_pos p))
  have h2 : 0 ≤ d * P2 e := Int.mul_nonneg (by omega) (Int.le_of_lt (P2_pos e))
  have h3 : 0 ≤ n * P2 (-e) := Int.mul_nonneg n0 (Int.le_of_lt (P2_pos _))
  have := Int.mul_nonneg h1 h2
  unfold posN
  omega
theorem pos_frac {p l h num den c e : Int} (f : Fm p l h) (d0 : 0 < den) (x : FlAt p l h (unA num l) (unB den l) c) (y : ExpAt p l h num den e) : ∃ G F, 0 < G ∧ 0 < F ∧ (posN p l num den e - c * posW den e) * G = (unA num l - uV p c * unB den l) * F ∧ posW den e * G = P2 (moreI p c + 1) * unB den l * F := by
  obtain rfl := y.uniq d0 (x.exp f d0)
  obtain ⟨m0, m1, m2⟩ := half_rng (p := p) x.c0
  obtain ⟨G, F, g0, f0, e1, e2⟩ := scl num den l (moreI p c + 1).toNat (ptE p l c) (by unfold ptE; omega) d0
  have ec : c = moreI p c * halfI p + ptM p c := by unfold ptM; omega
  have en : posN p l num den (ptE p l c) = moreI p c * halfI p * posW den (ptE p l c) + num * P2 (-(ptE p l c)) := by
    unfold posN
    rw [show ptE p l c - l = moreI p c by unfold ptE; omega]
  refine ⟨G, F, g0, f0, ?_, e2⟩
  have e3 : posN p l num den (ptE p l c) - c * posW den (ptE p l c) = num * P2 (-(ptE p l c)) - ptM p c * posW den (ptE p l c) := by
    have : c * posW den (ptE p l c) = moreI p c * halfI p * posW den (ptE p l c) + ptM p c * posW den (ptE p l c) := by
      rw [← Int.add_mul, ← ec]
    omega
  have key : ptM p c * posW den (ptE p l c) * G = uV p c * unB den l * F := by
    unfold posW uV
    rw [Int.mul_assoc (ptM p c), e2]
    unfold P2
    rw [Int.mul_assoc (ptM p c), Int.mul_assoc (ptM p c)]
  rw [e3, Int.sub_mul, Int.sub_mul, e1, key]
theorem uV_top {p l h : Int} (lh : l ≤ h) : uV p (cntI p l h) = 2 * halfI p * P2 (h - l + 1) := by
  have hp := halfI_pos p
  obtain ⟨a, b⟩ := pt_of (p := p) (g := h - l + 1) (f := halfI p) (by omega) (by omega) (by omega) (.inr (Int.le_refl _))
  have e : cntI p l h = (h - l + 1) * halfI p + halfI p := by
    unfold cntI
    rw [show h - l + 2 = (h - l + 1) + 1 by omega, Int.add_mul _ 1, Int.one_mul]
  unfold uV
  rw [e, a, b, P2_succ (show 0 ≤ h - l + 1 by omega), ← Int.mul_assoc, Int.mul_comm (halfI p) 2]
structure RdOk (n d : Int) : Prop where
  n0 : 0 ≤ n
  d0 : 0 < d
  b : d.natAbs < 2 ^ 8990 ∨ (n.natAbs < 2 ^ 13490 ∧ d.natAbs < 2 ^ 13490)
def rndI (w : Str) (n d : Int) : Int := if w = "even" then nearI n d else if w = "away" then (2 * n + d) / (2 * d) else if w = "zero" then n / d else if w = "out" then -(-n / d) else if n % d = 0 then n / d else n / d + 1 - n / d % 2
def readI (w : Str) (c s : Int) : Int := if s = 0 then c else if w = "even" then c + (if s = 3 ∨ (s = 2 ∧ c % 2 = 1) then 1 else 0) else if w = "away" then c + (if s > 1 then 1 else 0) else if w = "zero" then c else if w = "out" then c + 1 else c + 1 - c % 2
def sideN (c N W : Int) : Int := if N = c * W then 0 else if 2 * (N - c * W) < W then 1 else if 2 * (N - c * W) = W then 2 else 3
theorem rnd_code {w : Str} {c N W : Int} (W0 : 0 < W) (lo : c * W ≤ N) (up : N < (c + 1) * W) : rndI w N W = readI w c (sideN c N W) := by
  have q := div_at W0 lo up
  have m : N % W = N - c * W := by
    have := Int.mul_ediv_add_emod N W
    rw [q, Int.mul_comm W c] at this
    omega
  have up : N < c * W + W := by rw [Int.add_mul, Int.one_mul] at up; exact up
  have aw : (2 * N + W) / (2 * W) = c + if 2 * (N - c * W) < W then 0 else 1 := by
    split
    · refine div_at (by omega) ?_ ?_
      · rw [Int.add_zero, Int.mul_left_comm]; omega
      · rw [Int.add_zero, Int.add_mul, Int.mul_left_comm]; omega
    · refine div_at (by omega) ?_ ?_
      · rw [Int.add_mul, Int.mul_left_comm]; omega
      · rw [Int.add_mul, Int.add_mul, Int.mul_left_comm]; omega
  unfold rndI nearI
  rw [q, m, aw]
  by_cases z : N = c * W
  · have s0 : sideN c N W = 0 := by unfold sideN; rw [if_pos z]
    rw [s0]
    unfold readI
    rw [if_pos rfl, ceil_eq W0 z.symm, if_pos (show N - c * W = 0 by omega), if_neg (show ¬ (2 * (N - c * W) > W ∨ 2 * (N - c * W) = W ∧ c % 2 = 1) by omega), if_pos (show 2 * (N - c * W) < W by omega), Int.add_zero]
    split
    · rfl
    split
    · rfl
    split
    · rfl
    split <;> rfl
  · have ce := ceil_at W0 (show c * W < N by omega) (by rw [Int.add_mul, Int.one_mul]; omega)
    have s : sideN c N W ≠ 0 ∧ (sideN c N W = 3 ↔ 2 * (N - c * W) > W) ∧ (sideN c N W = 2 ↔ 2 * (N - c * W) = W) ∧ (sideN c N W > 1 ↔ ¬ 2 * (N - c * W) < W) := by
      unfold sideN
      rw [if_neg z]
      split
      · omega
      · split <;> omega
    obtain ⟨s0, s1, s2, s3⟩ := s
    rw [ce, if_neg (show ¬ N - c * W = 0 by omega)]
    unfold readI
    rw [if_neg s0]
    split
    · congr 1
      by_cases y : 2 * (N - c * W) > W ∨ 2 * (N - c * W) = W ∧ c % 2 = 1
      · rw [if_pos y, if_pos (y.imp s1.mpr fun t => ⟨s2.mpr t.1, t.2⟩)]
      · rw [if_neg y, if_neg fun t => y (t.imp s1.mp fun t => ⟨s2.mp t.1, t.2⟩)]
    split
    · congr 1
      by_cases y : 2 * (N - c * W) < W
      · rw [if_pos y, if_neg fun t => s3.mp t y]
      · rw [if_neg y, if_pos (s3.mpr y)]
    split
    · rfl
    split <;> rfl
def rdI (w : Str) (top N W : Int) : Int := if N ≤ top * W then rndI w N W else if w = "zero" then top else if w = "odd" then top + 1 - top % 2 else if rndI w N W < top + 1 then rndI w N W else top + 1
def IsWay (w : Str) : Prop := w = "even" ∨ w = "away" ∨ w = "zero" ∨ w = "out" ∨ w = "odd"
theorem neA : ¬ ("away" : Str) = "even" := by decide
theorem neZ : ¬ ("zero" : Str) = "even" := by decide
theorem naZ : ¬ ("zero" : Str) = "away" := by decide
theorem neU : ¬ ("out" : Str) = "even" := by decide
theorem naU : ¬ ("out" : Str) = "away" := by decide
theorem nzU : ¬ ("out" : Str) = "zero" := by decide
theorem noU : ¬ ("out" : Str) = "odd" := by decide
theorem neO : ¬ ("odd" : Str) = "even" := by decide
theorem naO : ¬ ("odd" : Str) = "away" := by decide
theorem nzO : ¬ ("odd" : Str) = "zero" := by decide
theorem nuO : ¬ ("odd" : Str) = "out" := by decide
theorem nzE : ¬ ("even" : Str) = "zero" := by decide
theorem noE : ¬ ("even" : Str) = "odd" := by decide
theorem nzA : ¬ ("away" : Str) = "zero" := by decide
theorem noA : ¬ ("away" : Str) = "odd" := by decide
theorem readI_e {c s : Int} (h : s ≠ 0) : readI "even" c s = c + (if s = 3 ∨ (s = 2 ∧ c % 2 = 1) then 1 else 0) := by unfold readI; rw [if_neg h, if_pos rfl]
theorem readI_a {c s : Int} (h : s ≠ 0) : readI "away" c s = c + (if s > 1 then 1 else 0) := by unfold readI; rw [if_neg h, if_neg neA, if_pos rfl]
theorem readI_z {c s : Int} (h : s ≠ 0) : readI "zero" c s = c := by unfold readI; rw [if_neg h, if_neg neZ, if_neg naZ, if_pos rfl]
theorem readI_u {c s : Int} (h : s ≠ 0) : readI "out" c s = c + 1 := by unfold readI; rw [if_neg h, if_neg neU, if_neg naU, if_neg nzU, if_pos rfl]
theorem readI_o {c s : Int} (h : s ≠ 0) : readI "odd" c s = c + 1 - c % 2 := by unfold readI; rw [if_neg h, if_neg neO, if_neg naO, if_neg nzO, if_neg nuO]
theorem readI_0 {w : Str} {c : Int} : readI w c 0 = c := by unfold readI; rw [if_pos rfl]
theorem rd_code {w : Str} {top c N W : Int} (hw : IsWay w) (W0 : 0 < W) (lo : c * W ≤ N) (ct : c ≤ top) (up : c < top → N < (c + 1) * W) : rdI w top N W = readI w c (sideN c N W) := by
  unfold rdI
  by_cases h : N ≤ top * W
  · rw [if_pos h]
    refine rnd_code W0 lo ?_
    by_cases y : c < top
    · exact up y
    · obtain rfl : c = top := by omega
      rw [Int.add_mul, Int.one_mul]
      omega
  rw [if_neg h]
  obtain rfl : c = top := by
    refine Decidable.byContradiction fun y => h ?_
    have u := up (by omega)
    have := Int.mul_le_mul_of_nonneg_right (show c + 1 ≤ top by omega) (Int.le_of_lt W0)
    omega
  have s : sideN c N W ≠ 0 := by
    unfold sideN
    rw [if_neg (by omega)]
    split
    · decide
    · split <;> decide
  by_cases u : N < (c + 1) * W
  · rw [rnd_code W0 lo u]
    generalize sideN c N W = t at *
    rcases hw with rfl | rfl | rfl | rfl | rfl
    · rw [readI_e s, if_neg nzE, if_neg noE]
      split <;> split <;> omega
    · rw [readI_a s, if_neg nzA, if_neg noA]
      split <;> split <;> omega
    · rw [readI_z s, if_pos rfl]
    · rw [readI_u s, if_neg nzU, if_neg noU, if_neg (show ¬ c + 1 < c + 1 by omega)]
    · rw [readI_o s, if_neg nzO, if_pos rfl]
  · have s3 : sideN c N W = 3 := by
      rw [Int.add_mul, Int.one_mul] at u
      unfold sideN
      rw [if_neg (by omega), if_neg (by omega), if_neg (by omega)]
    have q : c + 1 ≤ N / W := (Int.le_ediv_iff_mul_le W0).mpr (by omega)
    rcases hw with rfl | rfl | rfl | rfl | rfl
    · rw [readI_e s, if_neg nzE, if_neg noE, s3, if_pos (show ((3 : Int) = 3 ∨ ((3 : Int) = 2 ∧ c % 2 = 1)) from .inl rfl)]
      have : c + 1 ≤ rndI "even" N W := by
        unfold rndI nearI
        rw [if_pos rfl]
        split <;> omega
      rw [if_neg (by omega)]
    · rw [readI_a s, if_neg nzA, if_neg noA, s3, if_pos (show (3 : Int) > 1 by decide)]
      have : c + 1 ≤ rndI "away" N W := by
        unfold rndI
        rw [if_neg neA, if_pos rfl]
        refine (Int.le_ediv_iff_mul_le (by omega)).mpr ?_
        rw [Int.mul_left_comm]
        omega
      rw [if_neg (by omega)]
    · rw [readI_z s, if_pos rfl]
    · rw [readI_u s, if_neg nzU, if_neg noU]
      have : c + 1 ≤ rndI "out" N W := by
        unfold rndI
        rw [if_neg neU, if_neg naU, if_neg nzU, if_pos rfl]
        exact ceil_ge W0 (by omega)
      rw [if_neg (by omega)]
    · rw [readI_o s, if_neg nzO, if_pos rfl]
def sideU (p c A B : Int) : Int := if A = uV p c * B then 0 else if 2 * (A - uV p c * B) < P2 (moreI p c + 1) * B then 1 else if 2 * (A - uV p c * B) = P2 (moreI p c + 1) * B then 2 else 3
theorem side_eq {p l h num den c e : Int} (f : Fm p l h) (d0 : 0 < den) (x : FlAt p l h (unA num l) (unB den l) c) (y : ExpAt p l h num den e) : sideN c (posN p l num den e) (posW den e) = sideU p c (unA num l) (unB den l) := by
  obtain ⟨G, F, G0, F0, e1, e2⟩ := pos_frac f d0 x y
  unfold sideN sideU
  generalize posN p l num den e = N at *
  generalize posW den e = W at *
  generalize unA num l = A at *
  generalize unB den l = B at *
  generalize uV p c * B = U at *
  generalize P2 (moreI p c + 1) * B = V at *
  generalize c * W = cW at *
  have e3 : 2 * (N - cW) * G = 2 * (A - U) * F := by rw [Int.mul_assoc, e1, Int.mul_assoc]
  have z : N = cW ↔ A = U := by
    constructor
    · intro h
      rw [show N - cW = 0 by omega, Int.zero_mul] at e1
      rcases Int.mul_eq_zero.mp e1.symm with h | h <;> omega
    · intro h
      rw [show A - U = 0 by omega, Int.zero_mul] at e1
      rcases Int.mul_eq_zero.mp e1 with h | h <;> omega
  have lt : 2 * (N - cW) < W ↔ 2 * (A - U) < V := by
    constructor
    · intro h
      have := Int.mul_lt_mul_of_pos_right h G0
      rw [e3, e2] at this
      exact Int.lt_of_mul_lt_mul_right this (Int.le_of_lt F0)
    · intro h
      have := Int.mul_lt_mul_of_pos_right h F0
      rw [← e3, ← e2] at this
      exact Int.lt_of_mul_lt_mul_right this (Int.le_of_lt G0)
  have eq : 2 * (N - cW) = W ↔ 2 * (A - U) = V := by
    constructor
    · intro h
      have : 2 * (N - cW) * G = W * G := by rw [h]
      rw [e3, e2] at this
      exact Int.eq_of_mul_eq_mul_right (by omega) this
    · intro h
      have : 2 * (A - U) * F = V * F := by rw [h]
      rw [← e3, ← e2] at this
      exact Int.eq_of_mul_eq_mul_right (by omega) this
  simp only [z, lt, eq]
theorem read_code {w : Str} {p l h num den c e : Int} (hw : IsWay w) (f : Fm p l h) (d0 : 0 < den) (x : FlAt p l h (unA num l) (unB den l) c) (y : ExpAt p l h num den e) : rdI w (cntI p l h - 1) (posN p l num den e) (posW den e) = readI w c (sideU p c (unA num l) (unB den l)) := by
  obtain ⟨W0, lo, eq, up⟩ := pos_at f d0 x y
  rw [rd_code hw W0 lo (by have := x.c1; omega) fun g => up (by omega), side_eq f d0 x y]
structure Sm (p l h : Int) : Prop where
  f : Fm p l h
  p1 : p ≤ 12
  h1 : h ≤ l + 200
def cntN (p l h : Int) : Nat := (cntI p l h).toNat
theorem half_sm {p : Int} (p1 : p ≤ 12) : halfI p ≤ 2048 := by
  have := Nat.pow_le_pow_right (show 0 < 2 by decide) (show (p - 1).toNat ≤ 11 by omega)
  have e1 : ((2 ^ (p - 1).toNat : Nat) : Int) = 2 ^ (p - 1).toNat := by rw [Int.natCast_pow]; rfl
  unfold halfI
  omega
theorem cnt_sm {p l h : Int} (s : Sm p l h) : cntI p l h ≤ 413696 ∧ (cntN p l h : Int) = cntI p l h ∧ 2 ≤ cntN p l h := by
  have a := half_sm s.p1
  have hp := halfI_pos p
  have b := s.h1
  have c := cnt_pos s.f
  have : cntI p l h ≤ 413696 := by
    unfold cntI
    have x := Int.mul_le_mul_of_nonneg_right (show h - l + 2 ≤ 202 by omega) (Int.le_of_lt hp)
    omega
  refine ⟨this, ?_, ?_⟩
  · unfold cntN; omega
  · unfold cntN; omega
def vA (p c : Int) : Int := ptM p c * P2 (moreI p c)
theorem vA_two {p c : Int} (h : 0 ≤ c) : uV p c = 2 * vA p c := by
  unfold uV vA
  rw [P2_succ (half_rng h).1, Int.mul_left_comm]
theorem row_hal {p : Int} (i n : Nat) (hn : (n : Int) = halfI p) : (List.range n).map (fun k => D.int ((halfI p + (k : Nat)) * 2 ^ (1 + (i : Nat) : Int).toNat)) = (List.range n).map ((fun c => D.int (vA p (c : Nat))) ∘ ((2 + i) * n + ·)) := by
  refine List.map_congr_left fun k hk => ?_
  have kn : k < n := List.mem_range.mp hk
  have e : (((2 + i) * n + k : Nat) : Int) = ((i : Int) + 1) * halfI p + (halfI p + k) := by
    rw [Int.natCast_add, Int.natCast_mul, hn, Int.natCast_add, Int.add_mul, Int.add_mul]
    omega
  obtain ⟨a, b⟩ := pt_of (p := p) (g := (i : Int) + 1) (f := halfI p + k) (by omega) (by omega) (by omega) (.inr (by omega))
  show _ = D.int (vA p (((2 + i) * n + k : Nat) : Int))
  unfold vA P2
  rw [e, a, b, Int.add_comm 1]
theorem low_hal {p : Int} (p1 : 1 ≤ p) (n : Nat) (hn : (n : Int) = halfI p) : (List.range (2 * n)).map (fun k => D.int (0 + (k : Nat))) = (List.range (2 * n)).map fun c => D.int (vA p (c : Nat)) := by
  refine List.map_congr_left fun k hk => ?_
  have kn : k < 2 * n := List.mem_range.mp hk
  obtain ⟨a, b⟩ := pt_of (p := p) (g := 0) (f := k) (by omega) (by omega) (by omega) (.inl rfl)
  rw [Int.zero_mul, Int.zero_add] at a b
  unfold vA
  rw [a, b, Int.zero_add, show P2 0 = 1 from rfl, Int.mul_one]
theorem unB_pos {q l : Int} : 0 < unB (P10 (-q)) l := Int.mul_pos (P10_pos _) (P2_pos _)
def vV (p l c : Int) : Int := vA p c * P2 (l + 8)
def valL (p l h : Int) : List D := (List.range (cntN p l h + 1)).map fun c => D.int (vV p l (c : Nat))
theorem val_len {p l h : Int} (s : Sm p l h) : ((valL p l h).length : Int) = cntI p l h + 1 ∧ (valL p l h).length ≤ 413697 := by
  obtain ⟨a, b, _⟩ := cnt_sm s
  unfold valL
  rw [List.length_map, List.length_range]
  omega
theorem val_get {p l h : Int} {j : Nat} (hj : j < cntN p l h + 1) : (valL p l h)[j]? = some (.int (vV p l (j : Nat))) := by
  unfold valL
  rw [List.getElem?_map, List.getElem?_range hj]
  rfl
theorem val_at {p l h c : Int} (s : Sm p l h) (c0 : 0 ≤ c) (c1 : c ≤ cntI p l h) : atI (valL p l h) c = some (.int (vV p l c)) := by
  obtain ⟨a, b, _⟩ := cnt_sm s
  refine atI_nat' (j := c.toNat) (by omega) ?_
  rw [val_get (by omega), show ((c.toNat : Nat) : Int) = c by omega]
def shV (e : Int) : D → D
  | .int m => .int (m * 2 ^ e.toNat)
  | d => d
theorem row_val {p l : Int} (i n : Nat) (l0 : -8 ≤ l) (hn : (n : Int) = halfI p) : (List.range n).map (fun k => D.int ((halfI p + (k : Nat)) * 2 ^ (l + 1 + (i : Nat) + 8 : Int).toNat)) = (List.range n).map ((fun c => D.int (vV p l (c : Nat))) ∘ ((2 + i) * n + ·)) := by
  have e := congrArg (List.map (shV (l + 8))) (row_hal i n hn)
  rw [List.map_map, List.map_map] at e
  have e1 : (shV (l + 8) ∘ fun k => D.int ((halfI p + (k : Nat)) * 2 ^ (1 + (i : Nat) : Int).toNat)) = fun k : Nat => D.int ((halfI p + (k : Nat)) * 2 ^ (l + 1 + (i : Nat) + 8 : Int).toNat) := by
    funext k
    show D.int (_ * _ * _) = D.int _
    rw [Int.mul_assoc, ← Int.pow_add, show (1 + (i : Nat) : Int).toNat + (l + 8).toNat = (l + 1 + (i : Nat) + 8 : Int).toNat by omega]
  rw [e1] at e
  exact e
theorem low_val {p l : Int} (p1 : 1 ≤ p) (n : Nat) (hn : (n : Int) = halfI p) : (List.range (2 * n)).map (fun k => D.int ((0 + (k : Nat)) * 2 ^ (l + 8).toNat)) = (List.range (2 * n)).map fun c => D.int (vV p l (c : Nat)) := by
  have e := congrArg (List.map (shV (l + 8))) (low_hal p1 n hn)
  rw [List.map_map, List.map_map] at e
  exact e
theorem top_val {p l h : Int} (p1 : 1 ≤ p) (lh : l ≤ h) (l0 : -8 ≤ l) : (1 : Int) * 2 ^ (p + h + 8).toNat = vV p l (cntI p l h) := by
  have u := uV_top (p := p) lh
  have c0 : 0 ≤ cntI p l h := Int.mul_nonneg (by omega) (Int.le_of_lt (halfI_pos p))
  rw [vA_two c0, ← halfI_two p1] at u
  have e : (2 : Int) ^ p.toNat * P2 (h - l + 1) = 2 * 2 ^ (p + h - l).toNat := by
    rw [P2_succ (by omega), Int.mul_left_comm]
    unfold P2
    rw [← Int.pow_add, show p.toNat + (h - l).toNat = (p + h - l).toNat by omega]
  have e2 : vA p (cntI p l h) = 2 ^ (p + h - l).toNat := by omega
  unfold vV P2
  rw [e2, ← Int.pow_add, Int.one_mul, show (p + h - l).toNat + (l + 8).toNat = (p + h + 8).toNat by omega]
theorem vV_two {p l c : Int} (c0 : 0 ≤ c) : 2 * vV p l c = uV p c * P2 (l + 8) := by
  unfold vV
  rw [vA_two c0, Int.mul_assoc]
theorem vV_nn {p l c : Int} (c0 : 0 ≤ c) : 0 ≤ vV p l c := by
  have a := uV_nn (p := p) c0
  rw [vA_two c0] at a
  exact Int.mul_nonneg (by omega) (Int.le_of_lt (P2_pos _))
theorem vV_le {p l h c : Int} (p1 : 1 ≤ p) (p6 : p ≤ 6) (lh : l ≤ h) (l0 : -8 ≤ l) (h1 : h ≤ 8) (c0 : 0 ≤ c) (hc : c ≤ cntI p l h) : vV p l c ≤ 4194304 := by
  have t := uV_le (p := p) c0 hc
  have c1 : 0 ≤ cntI p l h := by omega
  rw [vA_two c0, vA_two c1] at t
  have g : vV p l c ≤ vV p l (cntI p l h) := Int.mul_le_mul_of_nonneg_right (by omega) (Int.le_of_lt (P2_pos _))
  rw [← top_val p1 lh l0, Int.one_mul] at g
  have := Nat.pow_le_pow_right (show 0 < 2 by decide) (show (p + h + 8).toNat ≤ 22 by omega)
  have e1 : ((2 ^ (p + h + 8).toNat : Nat) : Int) = 2 ^ (p + h + 8).toNat := by rw [Int.natCast_pow]; rfl
  omega
theorem vV_lt {p l c : Int} (c0 : 0 ≤ c) : 0 < vV p l (c + 1) := by
  have a := uV_pos (p := p) (show 0 < c + 1 by omega)
  rw [vA_two (by omega)] at a
  exact Int.mul_pos (by omega) (P2_pos _)
theorem val_scl {l : Int} (l0 : -8 ≤ l) : ∃ F G : Int, 0 < F ∧ 0 < G ∧ ∀ U n d : Int, U * P2 (l + 8) * d * F = U * unB d l * G ∧ n * 512 * F = unA n l * G := by
  by_cases z : 1 ≤ l
  · refine ⟨1, 512, by decide, by decide, fun U n d => ⟨?_, ?_⟩⟩
    · show _ = U * (d * P2 (l - 1)) * 512
      rw [show l + 8 = (l - 1) + 9 by omega, P2_sum (by omega) (by decide), show P2 9 = 512 from rfl]
      simp only [Int.one_mul, Int.mul_one, Int.mul_assoc, Int.mul_comm, Int.mul_left_comm]
    · show _ = n * P2 (1 - l) * 512
      rw [P2_nn (show 1 - l ≤ 0 by omega), Int.mul_one, Int.mul_one]
  · have e : P2 (l + 8) * P2 (1 - l) = 512 := by
      rw [← P2_sum (by omega) (by omega), show l + 8 + (1 - l) = 9 by omega]
      rfl
    refine ⟨P2 (1 - l), 512, P2_pos _, by decide, fun U n d => ⟨?_, ?_⟩⟩
    · show _ = U * (d * P2 (l - 1)) * 512
      rw [P2_nn (show l - 1 ≤ 0 by omega), Int.mul_one, ← e]
      simp only [Int.mul_assoc, Int.mul_comm, Int.mul_left_comm]
    · show _ = n * P2 (1 - l) * 512
      rw [Int.mul_right_comm]
theorem val_cmp {p l c n d : Int} (l0 : -8 ≤ l) (c0 : 0 ≤ c) : (vV p l c * d ≤ n * 256 ↔ uV p c * unB d l ≤ unA n l) ∧ (vV p l c * d = n * 256 ↔ unA n l = uV p c * unB d l) := by
  obtain ⟨F, G, F0, G0, e⟩ := val_scl l0
  obtain ⟨e1, e2⟩ := e (uV p c) n d
  have t := vV_two (p := p) (l := l) c0
  rw [← t] at e1
  have x1 : 2 * vV p l c * d = 2 * (vV p l c * d) := Int.mul_assoc ..
  have x2 : n * 512 = 2 * (n * 256) := by omega
  rw [x1] at e1
  rw [x2] at e2
  generalize vV p l c * d = X at *
  generalize n * 256 = Y at *
  generalize uV p c * unB d l = X' at *
  generalize unA n l = Y' at *
  refine ⟨⟨fun h => ?_, fun h => ?_⟩, fun h => ?_, fun h => ?_⟩
  · refine Int.le_of_mul_le_mul_right (a := G) ?_ G0
    rw [← e1, ← e2]
    exact Int.mul_le_mul_of_nonneg_right (by omega) (Int.le_of_lt F0)
  · have := Int.le_of_mul_le_mul_right (a := F) (b := 2 * X) (c := 2 * Y) (by rw [e1, e2]; exact Int.mul_le_mul_of_nonneg_right h (Int.le_of_lt G0)) F0
    omega
  · refine Int.eq_of_mul_eq_mul_right (Int.ne_of_gt G0) ?_
    rw [← e1, ← e2, h]
  · have := Int.eq_of_mul_eq_mul_right (Int.ne_of_gt F0) (show 2 * X * F = 2 * Y * F by rw [e1, e2, h])
    omega
theorem same_sign {a F b G : Int} (F0 : 0 < F) (G0 : 0 < G) (h : 2 * (a * F) = b * G) : (b < 0 ∧ a < 0) ∨ (b = 0 ∧ a = 0) ∨ (0 < b ∧ 0 < a) := by
  rcases Int.lt_trichotomy b 0 with g | g | g
  · have x := Int.mul_neg_of_neg_of_pos g G0
    refine .inl ⟨g, Int.not_le.mp fun z => ?_⟩
    have := Int.mul_nonneg z (Int.le_of_lt F0)
    omega
  · subst g
    rw [Int.zero_mul] at h
    refine .inr (.inl ⟨rfl, ?_⟩)
    rcases Int.mul_eq_zero.mp (show a * F = 0 by omega) with z | z
    · exact z
    · omega
  · have x := Int.mul_pos g G0
    refine .inr (.inr ⟨g, Int.not_le.mp fun z => ?_⟩)
    have := Int.mul_nonneg (show 0 ≤ -a by omega) (Int.le_of_lt F0)
    rw [Int.neg_mul] at this
    omega
theorem val_side {p l c n d : Int} (l0 : -8 ≤ l) (c0 : 0 ≤ c) (ne : unA n l ≠ uV p c * unB d l) (s σ : Int) (hs : s = sideU p c (unA n l) (unB d l)) (hσ : σ = 2 * (n * 256) - (vV p l c + vV p l (c + 1)) * d) : (s = 1 ∧ σ < 0) ∨ (s = 2 ∧ σ = 0) ∨ (s = 3 ∧ 0 < σ) := by
  obtain ⟨F, G, F0, G0, e⟩ := val_scl l0
  obtain ⟨e1, e2⟩ := e (uV p c) n d
  obtain ⟨e3, _⟩ := e (uV p (c + 1)) n d
  rw [← vV_two c0, Int.mul_assoc 2, Int.mul_assoc 2] at e1
  rw [← vV_two (show 0 ≤ c + 1 by omega), Int.mul_assoc 2, Int.mul_assoc 2, uV_lt c0, Int.add_mul, Int.add_mul] at e3
  rw [Int.add_mul] at hσ
  have x2 : n * 512 = 2 * (n * 256) := by omega
  rw [x2, Int.mul_assoc 2] at e2
  unfold sideU at hs
  rw [if_neg ne] at hs
  clear ne e x2
  generalize vV p l c * d = X at *
  generalize vV p l (c + 1) * d = Z at *
  generalize n * 256 = Y at *
  generalize uV p c * unB d l = X' at *
  generalize unA n l = Y' at *
  generalize P2 (moreI p c + 1) * unB d l = W at *
  have k : 2 * (σ * F) = (2 * (Y' - X') - W) * G := by
    rw [hσ, Int.sub_mul, Int.add_mul, Int.mul_assoc 2, Int.sub_mul, Int.mul_assoc 2, Int.sub_mul]
    omega
  rcases same_sign F0 G0 k with ⟨a, b⟩ | ⟨a, b⟩ | ⟨a, b⟩
  · rw [if_pos (by omega)] at hs
    exact .inl ⟨hs, b⟩
  · rw [if_neg (by omega), if_pos (by omega)] at hs
    exact .inr (.inl ⟨hs, b⟩)
  · rw [if_neg (by omega), if_neg (by omega)] at hs
    exact .inr (.inr ⟨hs, b⟩)
theorem val_top {p l h c n d : Int} (f : Fm p l h) (l0 : -8 ≤ l) (d0 : 0 < d) (fl : FlAt p l h (unA n l) (unB d l) c) (t : vV p l (cntI p l h) * d ≤ n * 256) : c = cntI p l h - 1 ∧ sideU p c (unA n l) (unB d l) = 3 := by
  have c0 := fl.c0
  have c1 := fl.c1
  have B0 : 0 < unB d l := Int.mul_pos d0 (P2_pos _)
  have t := (val_cmp (p := p) l0 (show 0 ≤ cntI p l h by omega)).1.mp t
  have ec : c = cntI p l h - 1 := by
    refine Int.le_antisymm (by omega) (Int.not_lt.mp fun z => ?_)
    have a := fl.up (by omega)
    have b := Int.mul_le_mul_of_nonneg_right (uV_le (p := p) (show 0 ≤ c + 1 by omega) (show c + 1 ≤ cntI p l h by omega)) (Int.le_of_lt B0)
    omega
  refine ⟨ec, ?_⟩
  rw [show cntI p l h = c + 1 by omega, uV_lt c0, Int.add_mul] at t
  have w : 0 < P2 (moreI p c + 1) * unB d l := Int.mul_pos (P2_pos _) B0
  unfold sideU
  generalize uV p c * unB d l = X' at *
  generalize unA n l = Y' at *
  generalize P2 (moreI p c + 1) * unB d l = W at *
  rw [if_neg (by omega), if_neg (by omega), if_neg (by omega)]
theorem val_count {p l h c n d : Int} (l0 : -8 ≤ l) (d0 : 0 < d) (fl : FlAt p l h (unA n l) (unB d l) c) (t : ¬ vV p l (cntI p l h) * d ≤ n * 256) (j : Nat) (hj : (j : Int) ≤ cntI p l h) : vV p l (j : Nat) * d ≤ n * 256 ↔ (j : Int) ≤ c := by
  have c0 := fl.c0
  have c1 := fl.c1
  have B0 : 0 < unB d l := Int.mul_pos d0 (P2_pos _)
  rw [(val_cmp (p := p) l0 (show 0 ≤ (j : Int) by omega)).1]
  rw [(val_cmp (p := p) l0 (show 0 ≤ cntI p l h by omega)).1] at t
  refine ⟨fun z => Int.not_lt.mp fun g => ?_, fun z => ?_⟩
  · by_cases y : c + 1 < cntI p l h
    · have a := fl.up y
      have b := Int.mul_le_mul_of_nonneg_right (uV_le (p := p) (show 0 ≤ c + 1 by omega) (show c + 1 ≤ (j : Int) by omega)) (Int.le_of_lt B0)
      omega
    · rw [show (j : Int) = cntI p l h by omega] at z
      exact t z
  · exact Int.le_trans (Int.mul_le_mul_of_nonneg_right (uV_le (p := p) (by omega) z) (Int.le_of_lt B0)) fl.lo
def sp__law_form : Spc := fun ds hc Q _ => ∃ b r q N, ds = [.ref r] ∧ Dk b r q N hc ∧ N < 900000 ∧ ∀ p l h hc', Sm p l h → p ≤ 6 → -8 ≤ l → h ≤ 8 → Dk b r q (N + 3) hc' → Q (fmD p l h) hc'
theorem len__law_form {ds : List D} {hc : CH} {Q E} (h : sp__law_form ds hc Q E) : ds.length = 1 := by
  obtain ⟨b, r, q, N, rfl, _⟩ := h
  rfl
theorem pure__law_form {ds : List D} {hc : CH} {Q : D → CH → Prop} {E} (h : sp__law_form ds hc Q E) : c__law_form { nx := fun _ hc' => Q .non hc', rt := Q, xp := fun x _ hc' => E x hc' } (startC N__law_form ds) hc := by
  obtain ⟨b, r, q, N, rfl, dk, hN, k⟩ := h
  unfold c__law_form N__law_form
  refine seq_step fun M hM => ?_
  walk_at "n"
  refine ⟨b, r, q, _, _, rfl, dk, by omega, by decide, by decide, fun x hc1 x0 x1 dk => ?_⟩
  walk_at "n"
  refine hM _ _ ?_
  walk_at "n"
  refine ⟨b, r, q, _, _, rfl, dk, by omega, by decide, by decide, fun y hc2 y0 y1 dk => ?_⟩
  walk_at "n"
  refine ⟨b, r, q, _, _, rfl, dk, by omega, by split <;> omega, le18 (by split <;> omega), fun z hc3 z0 z1 dk => ?_⟩
  have z2 : z < 9 ∧ z < 9 - (x - 8) := by split at z1 <;> omega
  walk_at "n"
  refine ⟨by decide, k _ _ _ _ ⟨⟨by omega, by omega, by omega, by omega, by omega⟩, by omega, by omega⟩ (by omega) (by omega) (by omega) dk⟩
theorem at__law_form (T : Txt K mg) (B : BaseT K mg base) (KX : K.In base) (PS : Sup P mf) (A__law_draw : FnAt P w K mg base 1 "_law_draw" ["_law_deck_here", "_law_many"] sp__law_draw) : FnAt P w K mg base 2 "_law_form" ["_law_deck_here"] sp__law_form :=
  fn_at (c := c__law_form) T.d__law_form sc__law_form (fun f cdv A outer s H E hr => by
    have nd := sc__law_form.nd
    exact (css_cons (cs_set nd (ce_op op_subD (CE.bo (ce_f A__law_draw hr (ca_cons (ce_v 0) (ca_cons ce_i ca_nil)))) (CE.bo ce_i)))
    (css_one (cs_ret (CE.bo (ce_tup (ca_cons (ce_op op_addD (CE.bo ce_i) (CE.bo (ce_f A__law_draw hr (ca_cons (ce_v 0) (ca_cons ce_i ca_nil))))) (ca_cons (ce_v 1) (ca_cons (ce_op op_addD (CE.bo (ce_v 1)) (CE.bo (ce_f A__law_draw hr (ca_cons (ce_v 0) (ca_cons (ce_bf (bf_min2 rfl) T.n_min (cba_cons (CE.bo ce_i) (cba_cons (CE.bo (ce_op op_subD (CE.bo ce_i) (CE.bo (ce_v 1)))) cba_nil))) ca_nil))))) ca_nil)))))))))
    (fun ds hc Q E h => len__law_form h) (fun ds hc Q E h => pure__law_form h) (fun _ _ _ _ _ _ us hl => match us, hl with | [_], _ => rfl)
abbrev N__law_numbers : List Str := ["_law_form_here", "_law_p", "_law_low", "_law_high", "_law_found", "_law_e", "_law_m"]
def c__law_numbers : CSx :=
  (cSeq (cAsg (cV 0) (gUn 3 (gCons' (gN 1) (gCons' (gN 2) (gCons' (gN 3) gNil')))))
    (cSeq (cAsg (cLc (cR1 (cCons (cOp shlD (cC (.int 1)) (cV 1)) cNil)) (gN 6) cYes (cOp shlD (cV 6) (cOp addD (cV 2) (cC (.int 8)))) [6]) (gN 4))
    (cSeq (cFor (cR2 (cCons (cOp addD (cV 2) (cC (.int 1))) (cCons (cOp addD (cV 3) (cC (.int 1))) cNil))) (gN 5)
    (cAsg (cOp addD (cV 4) (cLc (cR2 (cCons (cOp shlD (cC (.int 1)) (cOp subD (cV 1) (cC (.int 1)))) (cCons (cOp shlD (cC (.int 1)) (cV 1)) cNil))) (gN 6) cYes (cOp shlD (cV 6) (cOp addD (cV 5) (cC (.int 8)))) [6])) (gN 4)))
    (cRet (cOp addD (cV 4) (cLst (cCons (cOp shlD (cC (.int 1)) (cOp addD (cOp addD (cV 1) (cV 3)) (cC (.int 8)))) cNil)))))))
def sp__law_numbers : Spc := fun ds hc Q _ => ∃ (p l h : Int), ds = [fmD p l h] ∧ Sm p l h ∧ -8 ≤ l ∧ h ≤ 8 ∧ Q (.lst (valL p l h)) hc
theorem len__law_numbers {ds : List D} {hc : CH} {Q E} (h : sp__law_numbers ds hc Q E) : ds.length = 1 := by
  obtain ⟨p, l, h, rfl, _⟩ := h
  rfl
theorem pure__law_numbers {ds : List D} {hc : CH} {Q : D → CH → Prop} {E} (h : sp__law_numbers ds hc Q E) : c__law_numbers { nx := fun _ hc' => Q .non hc', rt := Q, xp := fun x _ hc' => E x hc' } (startC N__law_numbers ds) hc := by
  obtain ⟨p, l, h, rfl, s, l8, h8, k⟩ := h
  have f := s.f
  have p0 := f.p0
  have p1 := s.p1
  have l0 := f.l0
  have lh := f.lh
  have h1 := s.h1
  have hp := halfI_pos p
  have hs := half_sm p1
  obtain ⟨cb, cn, _⟩ := cnt_sm s
  have s1 : CShl 1 p := shlOk (a := 1) (b := 128) (by decide) (by omega) (by omega) (by decide)
  have s2 : CShl 1 (p - 1) := shlOk (a := 1) (b := 128) (by decide) (by omega) (by omega) (by decide)
  have s3 : CShl 1 (p + h + 8) := shlOk (a := 1) (b := 3000) (by decide) (by omega) (by omega) (by decide)
  obtain ⟨n, hn⟩ : ∃ n : Nat, (n : Int) = halfI p := ⟨(halfI p).toNat, by omega⟩
  have e2 : (1 : Int) * 2 ^ p.toNat = 2 * halfI p := by rw [Int.one_mul]; exact halfI_two p0
  have e1 : (1 : Int) * 2 ^ (p - 1).toNat = halfI p := by rw [Int.one_mul]; rfl
  unfold c__law_numbers N__law_numbers
  refine seq_step fun M hM => ?_
  walk_at "n"
  refine hM _ _ ?_
  refine seq_step fun M hM => ?_
  refine asg_step fun L hL => ?_
  walk_at "n"
  refine lc_step fun R hR => ?_
  walk_at "n"
  rw [e2]
  refine ⟨s1, hR _ _ (shV (l + 8)) ?_ (fun d hd Nx q => ?_) (hL _ _ (hM _ _ ?_))⟩
  · rw [rng_len, sizeLine_eq]; omega
  · obtain ⟨x, rfl, x0, x1⟩ := rng_mem hd
    walk_at "n"
    exact ⟨shlOk (a := 60) (b := 3000) (Nat.lt_trans (show x.natAbs < 100000 by omega) (by decide)) (by omega) (by omega) (by decide), q⟩
  have st : (rngD 0 (2 * halfI p)).map (shV (l + 8)) = (List.range ((2 + 0) * n)).map fun c => D.int (vV p l (c : Nat)) := by
    rw [show (2 + 0) * n = 2 * n by omega, ← low_val p0 n hn]
    unfold rngD
    rw [List.map_map, show (2 * halfI p - 0).toNat = 2 * n by omega]
    rfl
  rw [st]
  refine seq_step fun M hM => ?_
  refine for_step fun R hR => ?_
  walk_at "n"
  refine hR _ _ (fun i sc h' => h' = hc ∧ ∃ o5 o6, sc = [.val (fmD p l h), .val (.int p), .val (.int l), .val (.int h), .val (.lst ((List.range ((2 + i) * n)).map fun c => D.int (vV p l (c : Nat)))), o5, o6]) ⟨rfl, _, _, rfl⟩ (fun j d sc h' Nx e I nx => ?_) (fun sc h' I => ?_)
  · obtain ⟨rfl, o5, o6, rfl⟩ := I
    obtain ⟨rfl, jp⟩ := rng_at2 e
    clear e
    refine asg_step fun L hL => ?_
    walk_at "n"
    refine lc_step fun R hR => ?_
    walk_at "n"
    rw [e1, e2]
    refine ⟨s2, s1, hR _ _ (shV (l + 1 + j + 8)) ?_ (fun d hd Nx q => ?_) ?_⟩
    · rw [rng_len2, sizeLine_eq]; omega
    · obtain ⟨x, rfl, x0, x1⟩ := rng_mem hd
      walk_at "n"
      exact ⟨shlOk (a := 60) (b := 3000) (Nat.lt_trans (show x.natAbs < 100000 by omega) (by decide)) (by omega) (by omega) (by decide), q⟩
    have st : (rngD (halfI p) (2 * halfI p)).map (shV (l + 1 + j + 8)) = (List.range n).map fun k => D.int ((halfI p + (k : Nat)) * 2 ^ (l + 1 + (j : Nat) + 8 : Int).toNat) := by
      unfold rngD
      rw [List.map_map, show (2 * halfI p - halfI p).toNat = n by omega]
      rfl
    have jn : (2 + (j + 1)) * n ≤ cntN p l h := by
      have x := Int.mul_le_mul_of_nonneg_right (show ((2 + (j + 1) : Nat) : Int) ≤ h - l + 2 by omega) (Int.le_of_lt hp)
      rw [← hn, ← Int.natCast_mul] at x
      have y : cntI p l h = (h - l + 2) * (n : Int) := by rw [hn]; rfl
      omega
    have en : (2 + (j + 1)) * n = (2 + j) * n + n := by rw [show 2 + (j + 1) = (2 + j) + 1 by omega, Nat.succ_mul]
    have join : (List.range ((2 + j) * n)).map (fun c => D.int (vV p l (c : Nat))) ++ (rngD (halfI p) (2 * halfI p)).map (shV (l + 1 + j + 8)) = (List.range ((2 + (j + 1)) * n)).map fun c => D.int (vV p l (c : Nat)) := by
      rw [st, row_val j n l8 hn, en, List.range_add, List.map_append, List.map_map]
    refine ⟨?_, ?_⟩
    · rw [List.length_map, List.length_range, List.length_map, rng_len2, sizeLine_eq]
      omega
    · rw [join]
      exact hL _ _ (nx _ _ ⟨rfl, _, _, rfl⟩)
  · obtain ⟨rfl, o5, o6, rfl⟩ := I
    refine hM _ _ ?_
    have en : (2 + (rngD (l + 1) (h + 1)).length) * n = cntN p l h := by
      rw [rng_len2]
      have y : cntI p l h = (h - l + 2) * (n : Int) := by rw [hn]; rfl
      have z : ((2 + (h + 1 - (l + 1)).toNat : Nat) : Int) = h - l + 2 := by omega
      have : (((2 + (h + 1 - (l + 1)).toNat) * n : Nat) : Int) = cntI p l h := by rw [Int.natCast_mul, z, y]
      omega
    rw [en]
    walk_at "n"
    have top : [D.int (1 * 2 ^ (p + h + 8).toNat)] = [D.int (vV p l ((cntN p l h : Nat) : Int))] := by
      rw [top_val p0 lh l8, cn]
    rw [top]
    unfold valL at k
    rw [List.range_succ, List.map_append] at k
    exact ⟨s3, by decide, by rw [List.length_map, List.length_range, sizeLine_eq]; omega, k⟩
theorem at__law_numbers (T : Txt K mg) (B : BaseT K mg base) (KX : K.In base) (PS : Sup P mf)  : FnAt P w K mg base 1 "_law_numbers" ["_law_form_here"] sp__law_numbers :=
  fn_at (c := c__law_numbers) T.d__law_numbers sc__law_numbers (fun f cdv A outer s H E hr => by
    have nd := sc__law_numbers.nd
    exact (css_cons (cs_asg (ce_v 0) (cg_u rfl (cgs_cons (cg_n 1 nd) (cgs_cons (cg_n 2 nd) (cgs_cons (cg_n 3 nd) cgs_nil)))))
    (css_cons (cs_lc rfl nd (own := [("_law_m", 6)]) (ci_r1 T.n_range (ca_cons (ce_op op_shlD (CE.bo ce_i) (CE.bo (ce_v 1))) ca_nil)) (blkOk_by (N := ["_law_form_here", "_law_p", "_law_low", "_law_high", "_law_found", "_law_e", "_law_m"]) (sc := defScope s__law_numbers) (own := [("_law_m", 6)]) (by decide +kernel)) (fun _ _ _ _ _ => (cgk_n 6 nd)) (fun _ _ _ _ _ => cts_nil) (fun _ _ _ _ _ => (ce_op op_shlD (CE.bo (ce_v 6)) (CE.bo (ce_op op_addD (CE.bo (ce_v 2)) (CE.bo ce_i))))))
    (css_cons (cs_for hr.p rfl (ci_r2 T.n_range (ca_cons (ce_op op_addD (CE.bo (ce_v 2)) (CE.bo ce_i)) (ca_cons (ce_op op_addD (CE.bo (ce_v 3)) (CE.bo ce_i)) ca_nil))) (cg_n 5 nd)
    (css_one (cs_set nd (ce_op op_addD (CE.bo (ce_v 4)) (CE.bo (ce_lc rfl nd (own := [("_law_m", 6)]) (ci_r2 T.n_range (ca_cons (ce_op op_shlD (CE.bo ce_i) (CE.bo (ce_op op_subD (CE.bo (ce_v 1)) (CE.bo ce_i)))) (ca_cons (ce_op op_shlD (CE.bo ce_i) (CE.bo (ce_v 1))) ca_nil))) (blkOk_by (N := ["_law_form_here", "_law_p", "_law_low", "_law_high", "_law_found", "_law_e", "_law_m"]) (sc := defScope s__law_numbers) (own := [("_law_m", 6)]) (by decide +kernel)) (fun _ _ _ _ _ => (cgk_n 6 nd)) (fun _ _ _ _ _ => cts_nil) (fun _ _ _ _ _ => (ce_op op_shlD (CE.bo (ce_v 6)) (CE.bo (ce_op op_addD (CE.bo (ce_v 5)) (CE.bo ce_i)))))))))))
    (css_one (cs_ret (CE.bo (ce_op op_addD (CE.bo (ce_v 4)) (CE.bo (ce_lst (ca_cons (ce_op op_shlD (CE.bo ce_i) (CE.bo (ce_op op_addD (CE.bo (ce_op op_addD (CE.bo (ce_v 1)) (CE.bo (ce_v 3)))) (CE.bo ce_i)))) ca_nil)))))))))))
    (fun ds hc Q E h => len__law_numbers h) (fun ds hc Q E h => pure__law_numbers h) (fun _ _ _ _ _ _ us hl => match us, hl with | [_], _ => rfl)
abbrev N__law_power : List Str := ["_law_base", "_law_number", "_law_found", "_law_k"]
def c__law_power : CSx :=
  (cSeq (cAsg (cC (.int 1)) (gN 2))
    (cSeq (cFor (cR1 (cCons (cV 1) cNil)) (gN 3)
    (cAsg (cOp mulD (cV 2) (cV 0)) (gN 2)))
    (cRet (cV 2))))
def sp__law_power : Spc := fun ds hc Q _ => ∃ n : Int, ds = [.int 10, .int n] ∧ 0 ≤ n ∧ n ≤ 1300 ∧ Q (.int (P10 n)) hc
theorem len__law_power {ds : List D} {hc : CH} {Q E} (h : sp__law_power ds hc Q E) : ds.length = 2 := by
  obtain ⟨n, rfl, _⟩ := h
  rfl
theorem pure__law_power {ds : List D} {hc : CH} {Q : D → CH → Prop} {E} (h : sp__law_power ds hc Q E) : c__law_power { nx := fun _ hc' => Q .non hc', rt := Q, xp := fun x _ hc' => E x hc' } (startC N__law_power ds) hc := by
  obtain ⟨n, rfl, n0, n1, k⟩ := h
  unfold c__law_power N__law_power
  refine seq_step fun M hM => ?_
  walk_at "n"
  refine hM _ _ ?_
  refine seq_step fun M hM => ?_
  refine for_step fun R hR => ?_
  walk_at "n"
  refine hR _ _ (fun i sc h => h = hc ∧ ∃ o3, sc = [.val (.int 10), .val (.int n), .val (.int (P10 (i : Nat))), o3]) ⟨rfl, _, rfl⟩ (fun j d sc h Nx e I nx => ?_) (fun sc h I => ?_)
  · obtain ⟨rfl, o3, rfl⟩ := I
    obtain ⟨rfl, jp⟩ := rng_at e
    clear e
    have s : P10 ((j + 1 : Nat) : Int) = P10 (j : Nat) * 10 := by
      unfold P10
      rw [Int.toNat_natCast, Int.toNat_natCast, Int.pow_succ]
    walk_at "n"
    refine ⟨mulOk_r (by decide), ?_⟩
    rw [← s]
    exact nx _ _ ⟨rfl, _, rfl⟩
  · obtain ⟨rfl, o3, rfl⟩ := I
    refine hM _ _ ?_
    rw [rng_len, show ((n.toNat : Nat) : Int) = n by omega]
    walk_at "n"
    exact k
theorem at__law_power (T : Txt K mg) (B : BaseT K mg base) (KX : K.In base) (PS : Sup P mf)  : FnAt P w K mg base 1 "_law_power" ["_law_base", "_law_number"] sp__law_power :=
  fn_at (c := c__law_power) T.d__law_power sc__law_power (fun f cdv A outer s H E hr => by
    have nd := sc__law_power.nd
    exact (css_cons (cs_set nd ce_i)
    (css_cons (cs_for hr.p rfl (ci_r1 T.n_range (ca_cons (ce_v 1) ca_nil)) (cg_n 3 nd)
    (css_one (cs_set nd (ce_op op_mulD (CE.bo (ce_v 2)) (CE.bo (ce_v 0))))))
    (css_one (cs_ret (CE.bo (ce_v 2)))))))
    (fun ds hc Q E h => len__law_power h) (fun ds hc Q E h => pure__law_power h) (fun _ _ _ _ _ _ us hl => match us, hl with | [_, _], _ => rfl)
abbrev N__law_near_middle : List Str := ["_law_deck_here", "_law_values", "_law_at", "_law_many", "_law_scale", "_law_number"]
def c__law_near_middle : CSx :=
  (cSeq (cAsg (cCall sp__law_draw (cCons (cV 0) (cCons (cOp subD (cFn lenD (cCons (cV 1) cNil)) (cC (.int 1))) cNil))) (gN 2))
    (cSeq (cAsg (cOp ixD (cLst (cCons (cC (.int 1)) (cCons (cC (.int 6)) (cCons (cCall sp__law_draw (cCons (cV 0) (cCons (cC (.int 1191)) cNil))) cNil)))) (cCall sp__law_draw (cCons (cV 0) (cCons (cC (.int 3)) cNil)))) (gN 3))
    (cSeq (cAsg (cCall sp__law_power (cCons (cC (.int 10)) (cCons (cV 3) cNil))) (gN 4))
    (cSeq (cAsg (cOp subD (cOp addD (cOp mulD (cOp mulD (cOp addD (cOp ixD (cV 1) (cV 2)) (cOp ixD (cV 1) (cOp addD (cV 2) (cC (.int 1))))) (cOp powD (cC (.int 5)) (cC (.int 9)))) (cV 4)) (cCall sp__law_draw (cCons (cV 0) (cCons (cC (.int 3)) cNil)))) (cC (.int 1))) (gN 5))
    (cRet (cLst (cCons (cOp addD (cOp addD (cFn strD (cCons (cV 5) cNil)) (cC (.str "e-"))) (cFn strD (cCons (cOp addD (cC (.int 9)) (cV 3)) cNil))) (cCons (cLst (cCons (cV 5) (cCons (cOp mulD (cOp powD (cC (.int 10)) (cC (.int 9))) (cV 4)) cNil))) cNil))))))))
def txt (l : List Nat) : Str := ⟨l.toArray⟩
theorem txt_list {l : List Nat} : (txt l).cps.toList = l := rfl
theorem txt_len {l : List Nat} : (txt l).length = l.length := by
  show l.toArray.size = _
  rw [List.size_toArray]
theorem txt_app {a b : List Nat} : txt a ++ txt b = txt (a ++ b) := by
  show (⟨a.toArray ++ b.toArray⟩ : Str) = ⟨(a ++ b).toArray⟩
  rw [List.append_toArray]
theorem txt_inj {a b : List Nat} : txt a = txt b ↔ a = b := by
  refine ⟨fun h => ?_, fun h => by rw [h]⟩
  have : (txt a).cps.toList = (txt b).cps.toList := by rw [h]
  exact this
theorem txt_cut {l : List Nat} {lo hi : Option Int} : L2.cutS (txt l) lo hi = txt (cutX l lo hi) := by
  unfold L2.cutS cutX
  rw [txt_len, txt_list]
  rfl
theorem txt_at {l : List Nat} {i : Int} {k c : Nat} {F : Nat → Prop} (hi : i = (k : Int)) (h : l[k]? = some c) (q : F c) : oth (atI (txt l).cps.toList i) F := by
  have lt : k < l.length := (List.getElem?_eq_some_iff.mp h).1
  refine oth_some (x := c) ?_ q
  rw [txt_list]
  subst hi
  unfold atI L2.ixN
  rw [if_pos (by omega), if_pos (by omega)]
  exact h
theorem cut_at {α : Type} (pre rest : List α) {i j : Int} (k : Nat) (hi : i = (pre.length : Int)) (hj : j = (pre.length : Int) + k) : cutX (pre ++ rest) (some i) (some j) = rest.take k := by
  subst hi hj
  unfold cutX
  rw [show (pre.length : Int) + k = ((pre.length + k : Nat) : Int) by omega, HT.sIx_nat, HT.sIx_nat, List.length_append, show min pre.length (pre.length + rest.length) = pre.length by omega, List.drop_left]
  by_cases h : k ≤ rest.length
  · rw [show min (pre.length + k) (pre.length + rest.length) - pre.length = k by omega]
  · rw [show min (pre.length + k) (pre.length + rest.length) - pre.length = rest.length by omega, List.take_of_length_le (Nat.le_refl _), List.take_of_length_le (by omega)]
theorem cut_to {α : Type} (l : List α) (k : Nat) : cutX l none (some (k : Int)) = l.take k := by
  unfold cutX
  rw [HT.sIx_nat, HT.sIx_none, List.drop_zero, Nat.sub_zero]
  by_cases h : k ≤ l.length
  · rw [show min k l.length = k by omega]
  · rw [show min k l.length = l.length by omega, List.take_of_length_le (Nat.le_refl _), List.take_of_length_le (by omega)]
theorem cut_from {α : Type} (l : List α) (k : Nat) : cutX l (some (k : Int)) none = l.drop k := by
  unfold cutX
  rw [HT.sIx_nat, HT.sIx_none]
  by_cases h : k ≤ l.length
  · rw [show min k l.length = k by omega, List.take_of_length_le (by rw [List.length_drop]; omega)]
  · rw [show min k l.length = l.length by omega, List.drop_eq_nil_of_le (Nat.le_refl _), List.drop_eq_nil_of_le (by omega), List.take_nil]
theorem at_app {pre : List Nat} {c : Nat} {rest : List Nat} : (pre ++ c :: rest)[pre.length]? = some c := by
  rw [List.getElem?_append_right (Nat.le_refl _), Nat.sub_self]
  rfl
structure ShT (sg : List Nat) (most : Nat) (sh ds : List Nat) (b : Nat) : Prop where
  eq : (sh = ds ∧ b = 0) ∨ ∃ u v, ds = u ++ v ∧ sh = u ++ 46 :: v ∧ b = v.length
  mem : ∀ c ∈ ds, c ∈ sg
  ne : ds ≠ []
  len : ds.length ≤ most
def noDot (l : List Nat) : List Nat := l.filter (· != 46)
theorem noDot_app {a b : List Nat} : noDot (a ++ b) = noDot a ++ noDot b := List.filter_append ..
theorem noDot_self {l : List Nat} (h : 46 ∉ l) : noDot l = l := List.filter_eq_self.mpr fun c hc => by
  rw [bne_iff_ne]
  intro e
  exact h (e ▸ hc)
theorem noDot_dot {l : List Nat} : noDot (46 :: l) = noDot l := rfl
theorem noDot_one {c : Nat} (h : c ≠ 46) : noDot [c] = [c] := noDot_self (by rw [List.mem_singleton]; omega)
theorem ShT.no {sg : List Nat} {most : Nat} {sh ds : List Nat} {b : Nat} (h : ShT sg most sh ds b) (hs : 46 ∉ sg) : noDot sh = ds ∧ sh.count 46 ≤ 1 ∧ (∀ c ∈ sh, c ≠ 46 → c ∈ sg) := by
  have nd : 46 ∉ ds := fun z => hs (h.mem _ z)
  rcases h.eq with ⟨rfl, _⟩ | ⟨u, v, e, rfl, _⟩
  · exact ⟨noDot_self nd, by rw [List.count_eq_zero_of_not_mem nd]; decide, fun c hc _ => h.mem c hc⟩
  · have nu : 46 ∉ u := fun z => nd (e ▸ List.mem_append_left _ z)
    have nv : 46 ∉ v := fun z => nd (e ▸ List.mem_append_right _ z)
    refine ⟨by rw [noDot_app, noDot_dot, noDot_self nu, noDot_self nv, e], ?_, fun c hc n => ?_⟩
    · rw [List.count_append, List.count_cons_self, List.count_eq_zero_of_not_mem nu, List.count_eq_zero_of_not_mem nv]
      decide
    · refine h.mem c ?_
      rw [e]
      rcases List.mem_append.mp hc with hc | hc
      · exact List.mem_append_left _ hc
      · rcases List.mem_cons.mp hc with hc | hc
        · exact absurd hc n
        · exact List.mem_append_right _ hc
def frontD (l : List Nat) : D := if 46 ∈ l then .int ((l.takeWhile (· != 46)).length : Int) else .non
theorem frontD_no {l : List Nat} (h : 46 ∉ l) : frontD l = .non := if_neg h
theorem frontD_dot {l : List Nat} (h : 46 ∉ l) : frontD (l ++ [46]) = .int ((noDot l).length : Int) := by
  unfold frontD
  rw [if_pos (List.mem_append_right _ (List.mem_singleton_self _)), noDot_self h]
  congr 2
  rw [List.takeWhile_append_of_pos fun c hc => by rw [bne_iff_ne]; intro e; exact h (e ▸ hc)]
  show (l ++ List.takeWhile (· != 46) [46]).length = l.length
  rw [show List.takeWhile (· != 46) [46] = [] from rfl, List.append_nil]
theorem while_app : ∀ {l r : List Nat}, 46 ∈ l → (l ++ r).takeWhile (· != 46) = l.takeWhile (· != 46)
  | [], _, h => by cases h
  | c :: l, r, h => by
    by_cases z : c = 46
    · subst z; rfl
    · have m : 46 ∈ l := by
        rcases List.mem_cons.mp h with h | h
        · exact absurd h.symm z
        · exact h
      have b : (c != 46) = true := by rw [bne_iff_ne]; exact z
      rw [List.cons_append, List.takeWhile_cons, List.takeWhile_cons, if_pos b, if_pos b, while_app m]
theorem frontD_step {l : List Nat} {c : Nat} (h : c ≠ 46) : frontD (l ++ [c]) = frontD l := by
  unfold frontD
  by_cases z : 46 ∈ l
  · rw [if_pos z, if_pos (List.mem_append_left _ z)]
    rw [while_app z]
  · rw [if_neg z, if_neg]
    intro m
    rcases List.mem_append.mp m with m | m
    · exact z m
    · exact h (List.mem_singleton.mp m).symm
theorem ShT.behind {sg : List Nat} {most : Nat} {sh ds : List Nat} {b : Nat} (h : ShT sg most sh ds b) (hs : 46 ∉ sg) : (frontD sh = .non ∧ b = 0) ∨ ∃ f : Int, frontD sh = .int f ∧ (ds.length : Int) - f = b := by
  have nd : 46 ∉ ds := fun z => hs (h.mem _ z)
  rcases h.eq with ⟨rfl, e⟩ | ⟨u, v, e, rfl, e2⟩
  · exact .inl ⟨frontD_no nd, e⟩
  · have nu : 46 ∉ u := fun z => nd (e ▸ List.mem_append_left _ z)
    refine .inr ⟨u.length, ?_, by rw [e, List.length_append]; omega⟩
    unfold frontD
    rw [if_pos (List.mem_append_right _ (List.mem_cons_self ..)), List.takeWhile_append_of_pos fun c hc => by rw [bne_iff_ne]; intro z; exact nu (z ▸ hc)]
    show D.int ((u ++ []).length : Int) = _
    rw [List.append_nil]
theorem ix_txt {l : List Nat} {i : Int} {k c : Nat} {hc : CH} {P : D → Prop} (h : l[k]? = some c) (hi : i = (k : Int)) (hl : l.length ≤ 100000) (q : P (.str (txt [c]))) : ixD (.str (txt l)) (.int i) hc P :=
  ⟨by rw [txt_len, sizeLine_eq]; omega, txt_at hi h q⟩
theorem chr_eq {s : String} {c d : Nat} (h : Str.ofString s = txt [d]) : txt [c] = Str.ofString s ↔ c = d := by
  rw [h, txt_inj, List.cons.injEq]
  exact ⟨fun z => z.1, fun z => ⟨z, rfl⟩⟩
theorem txt_dot : Str.ofString "." = txt [46] := by decide +kernel
structure PwT (most : Nat) (pw : List Nat) (k : Int) : Prop where
  out : ∃ sg d, pw = sg ++ d ∧ (sg = [] ∨ sg = [43] ∨ sg = [45]) ∧ PySem.NumText.AllDigits d ∧ d ≠ [] ∧ PySem.NumText.digitsVal d ≤ most ∧ k = if sg = [45] then 0 - (PySem.NumText.digitsVal d : Int) else (PySem.NumText.digitsVal d : Int)
theorem val_mono : ∀ (b a : List Nat), PySem.NumText.digitsVal a ≤ PySem.NumText.digitsVal (a ++ b)
  | [], a => by rw [List.append_nil]; exact Nat.le_refl _
  | c :: b, a => by
    have h := val_mono b (a ++ [c])
    rw [PySem.NumText.digitsVal_snoc, List.append_assoc] at h
    have e : a ++ ([c] ++ b) = a ++ c :: b := rfl
    rw [e] at h
    omega
theorem sl_txt {pre rest : List Nat} {i j : Int} {k : Nat} {hc : CH} {P : D → Prop} (hi : i = (pre.length : Int)) (hj : j = (pre.length : Int) + k) (hl : (pre ++ rest).length ≤ 100000) (q : P (.str (txt (rest.take k)))) : Mn.slD (.str (txt (pre ++ rest))) (some i) (some j) hc P := by
  refine ⟨by rw [txt_len, sizeLine_eq]; omega, ?_⟩
  rw [txt_cut, cut_at pre rest k hi hj]
  exact q
theorem sl_head {l : List Nat} {k : Nat} {hc : CH} {P : D → Prop} (hl : l.length ≤ 100000) (q : P (.str (txt (l.take k)))) : Mn.slD (.str (txt l)) none (some (k : Int)) hc P := by
  refine ⟨by rw [txt_len, sizeLine_eq]; omega, ?_⟩
  rw [txt_cut, cut_to]
  exact q
theorem txt_minus : Str.ofString "-" = txt [45] := by decide +kernel
theorem txt_plus : Str.ofString "+" = txt [43] := by decide +kernel
theorem okD_txt {l : List Nat} {n : Nat} (h : ∀ c ∈ l, c < 128) : okD n (.str (txt l)) = true := by
  rw [okD_str]
  unfold PyData.canLay0 PyData.strOk
  rw [← Array.all_toList, List.all_eq_true]
  intro c hc
  have := h c hc
  exact decide_eq_true (by omega)
theorem in_pm {l : List Nat} {P : D → Prop} (hl : ∀ c ∈ l, c < 128) (h : P (.bl (decide (l = [45] ∨ l = [43])))) : inG false (.str (txt l)) [.str "-", .str "+"] P := by
  refine inG_ok (n := 0) (m := 0) (okD_txt hl) (by decide +kernel) (fun m => ?_) fun m => ?_
  · rw [decide_eq_true (by
      simp only [List.mem_cons, List.not_mem_nil, or_false, D.str.injEq] at m
      rcases m with m | m
      · exact .inl (txt_inj.mp (m.trans txt_minus))
      · exact .inr (txt_inj.mp (m.trans txt_plus)))] at h
    exact h
  · rw [decide_eq_false (by
      intro z
      apply m
      simp only [List.mem_cons, List.not_mem_nil, or_false, D.str.injEq]
      rcases z with rfl | rfl
      · exact .inl txt_minus.symm
      · exact .inr txt_plus.symm)] at h
    exact h
theorem txt_digits : Str.ofString "0123456789" = txt [48, 49, 50, 51, 52, 53, 54, 55, 56, 57] := by decide +kernel
theorem digit_in {c : Nat} (h : 48 ≤ c ∧ c ≤ 57) : c ∈ (Str.ofString "0123456789").cps.toList := by
  rw [txt_digits, txt_list]
  have n : c = 48 ∨ c = 49 ∨ c = 50 ∨ c = 51 ∨ c = 52 ∨ c = 53 ∨ c = 54 ∨ c = 55 ∨ c = 56 ∨ c = 57 := by omega
  rcases n with rfl | rfl | rfl | rfl | rfl | rfl | rfl | rfl | rfl | rfl <;> decide
theorem sl_one {l : List Nat} {i j : Int} {k c : Nat} {hc : CH} {P : D → Prop} (h : l[k]? = some c) (hi : i = (k : Int)) (hj : j = (k : Int) + 1) (hl : l.length ≤ 100000) (q : P (.str (txt [c]))) : Mn.slD (.str (txt l)) (some i) (some j) hc P := by
  obtain ⟨lt, e⟩ := List.getElem?_eq_some_iff.mp h
  have el : l = l.take k ++ c :: l.drop (k + 1) := by
    rw [← e, ← List.drop_eq_getElem_cons lt, List.take_append_drop]
  have ek : (l.take k).length = k := by rw [List.length_take]; omega
  rw [el] at hl ⊢
  exact sl_txt (k := 1) (by rw [ek]; exact hi) (by rw [ek]; exact hj) hl q
theorem txt_hexs : Str.ofString "0123456789abcdef" = txt [48, 49, 50, 51, 52, 53, 54, 55, 56, 57, 97, 98, 99, 100, 101, 102] := by decide +kernel
theorem txt_inf : Str.ofString "inf" = txt [105, 110, 102] := by decide +kernel
abbrev decL : List Nat := [48, 49, 50, 51, 52, 53, 54, 55, 56, 57]
abbrev hexL : List Nat := [48, 49, 50, 51, 52, 53, 54, 55, 56, 57, 97, 98, 99, 100, 101, 102]
theorem decL_rng {c : Nat} (h : c ∈ decL) : 48 ≤ c ∧ c ≤ 57 := by
  simp only [List.mem_cons, List.not_mem_nil, or_false] at h
  omega
theorem hexL_rng {c : Nat} (h : c ∈ hexL) : (48 ≤ c ∧ c ≤ 57) ∨ (97 ≤ c ∧ c ≤ 102) := by
  simp only [List.mem_cons, List.not_mem_nil, or_false] at h
  omega
theorem decL_all {l : List Nat} (h : ∀ c ∈ l, c ∈ decL) : PySem.NumText.AllDigits l := fun c m => decL_rng (h c m)
theorem hexL_all {l : List Nat} (h : ∀ c ∈ l, c ∈ hexL) : ∀ c ∈ l, Hx.IsHex c := fun c m => by
  have := hexL_rng (h c m)
  unfold Hx.IsHex
  omega
theorem hex_foldl : ∀ (l : List Nat) (a : Nat), (∀ c ∈ l, Hx.IsHex c) → l.foldl (fun acc c => acc * 16 + Hx.hv c) a < (a + 1) * 16 ^ l.length
  | [], a, _ => by show a < (a + 1) * 1; omega
  | c :: l, a, h => by
    have hc := Hx.hv_lt (h c (List.mem_cons_self ..))
    have := hex_foldl l (a * 16 + Hx.hv c) fun x m => h x (List.mem_cons_of_mem _ m)
    refine Nat.lt_of_lt_of_le this ?_
    rw [List.length_cons, Nat.pow_succ, ← Nat.mul_assoc, Nat.mul_right_comm]
    exact Nat.mul_le_mul_right _ (by omega)
theorem hex_lt {l : List Nat} (h : ∀ c ∈ l, Hx.IsHex c) : Hx.hexNum l < 16 ^ l.length := by
  have := hex_foldl l 0 h
  rw [Nat.zero_add, Nat.one_mul] at this
  exact this
def TailT (most : Nat) (tail : List Nat) (k : Int) : Prop := (tail = [] ∧ k = 0) ∨ ∃ pw, tail = 101 :: pw ∧ PwT most pw k
def NumT (rest : List Nat) (out : List D) : Prop := (rest = [105, 110, 102] ∧ out = [.str "inf"]) ∨
  (∃ sh pw dg b k, rest = 48 :: 120 :: (sh ++ 112 :: pw) ∧ ShT hexL 300 sh dg b ∧ PwT 1400 pw k ∧ out = [.int 2, .int ((Hx.hexNum dg : Nat) : Int), .int (k - 4 * (b : Int))]) ∨
  ∃ sh tail dg b k, rest = sh ++ tail ∧ ShT decL 1300 sh dg b ∧ TailT 1200 tail k ∧ out = [.int 10, .int ((PySem.NumText.digitsVal dg : Nat) : Int), .int (k - (b : Int))]
theorem ShT.front {sg : List Nat} {most : Nat} {sh dg : List Nat} {b : Nat} (h : ShT sg most sh dg b) : ∃ c t, sh = c :: t ∧ (c ∈ sg ∨ c = 46) ∧ ∀ x ∈ t, x ∈ sg ∨ x = 46 := by
  have all : ∀ c ∈ sh, c ∈ sg ∨ c = 46 := fun c m => by
    rcases h.eq with ⟨rfl, _⟩ | ⟨u, v, e, rfl, _⟩
    · exact .inl (h.mem c m)
    · rcases List.mem_append.mp m with m | m
      · exact .inl (h.mem c (e ▸ List.mem_append_left _ m))
      · rcases List.mem_cons.mp m with m | m
        · exact .inr m
        · exact .inl (h.mem c (e ▸ List.mem_append_right _ m))
  cases sh with
  | nil =>
    rcases h.eq with ⟨e, _⟩ | ⟨u, v, _, e, _⟩
    · exact absurd e.symm h.ne
    · cases u <;> cases e
  | cons c t => exact ⟨c, t, rfl, all c (List.mem_cons_self ..), fun x m => all x (List.mem_cons_of_mem _ m)⟩
theorem txt_num {n : Nat} : (Str.ofString (toString ((n : Nat) : Int))) = txt (TL.numL n) := by
  have e := congrArg (fun x : List Nat => (⟨x.toArray⟩ : Str)) (TL.tl_num n)
  exact e
theorem take_snoc {α : Type} {l : List α} {j : Nat} {c : α} (h : l[j]? = some c) : l.take (j + 1) = l.take j ++ [c] := by
  rw [List.take_add_one, h]
  rfl
def RdT (rest : List Nat) (num den : Int) : Prop := (∃ d q : Int, NumT rest [.int 10, .int d, .int q] ∧ 0 ≤ d ∧ d.natAbs < 2 ^ 4400 ∧ -2500 ≤ q ∧ q ≤ 2500 ∧ num = d * P10 q ∧ den = P10 (-q)) ∨
  ∃ d q : Int, NumT rest [.int 2, .int d, .int q] ∧ 0 ≤ d ∧ d.natAbs < 2 ^ 100 ∧ -100 ≤ q ∧ q ≤ 100 ∧ num = d * P2 q ∧ den = P2 (-q)
theorem RdT.ok {rest : List Nat} {num den : Int} (h : RdT rest num den) : 0 ≤ num ∧ 0 < den ∧ num.natAbs < 2 ^ 20000 ∧ den.natAbs < 2 ^ 20000 := by
  rcases h with ⟨d, q, _, d0, db, q0, q1, rfl, rfl⟩ | ⟨d, q, _, d0, db, q0, q1, rfl, rfl⟩
  · exact ⟨Int.mul_nonneg d0 (Int.le_of_lt (P10_pos _)), P10_pos _, up_pow 20000 (mul_pow db (P10_b 2500 10001 q1 (by decide))) (Nat.le_of_ble_eq_true rfl), P10_b 2500 20000 (by omega) (by decide)⟩
  · exact ⟨Int.mul_nonneg d0 (Int.le_of_lt (P2_pos _)), P2_pos _, up_pow 20000 (mul_pow db (P2_bits q 100 q1)) (Nat.le_of_ble_eq_true rfl), up_pow 20000 (P2_bits (-q) 100 (by omega)) (Nat.le_of_ble_eq_true rfl)⟩
def pwL (k : Int) : List Nat := if k < 0 then 45 :: TL.numL (-k).toNat else TL.numL k.toNat
theorem pwL_T {most : Nat} {k : Int} (h : k.natAbs ≤ most) : PwT most (pwL k) k := by
  unfold pwL
  by_cases z : k < 0
  · rw [if_pos z]
    refine ⟨[45], TL.numL (-k).toNat, rfl, .inr (.inr rfl), TL.numL_digits _, TL.numL_ne _, by rw [TL.numL_val]; omega, ?_⟩
    rw [if_pos rfl, TL.numL_val]
    omega
  · rw [if_neg z]
    refine ⟨[], TL.numL k.toNat, rfl, .inl rfl, TL.numL_digits _, TL.numL_ne _, by rw [TL.numL_val]; omega, ?_⟩
    rw [if_neg (by decide), TL.numL_val]
    omega
theorem pwL_all : ∀ j ∈ List.range 41, Str.ofString (toString ((j : Int) - 20)) = txt (pwL ((j : Int) - 20)) := by decide +kernel
theorem pwL_str {k : Int} (h : k.natAbs ≤ 20) : Str.ofString (toString k) = txt (pwL k) := by
  have x := pwL_all (k + 20).toNat (List.mem_range.mpr (by omega))
  rwa [show (((k + 20).toNat : Nat) : Int) - 20 = k by omega] at x
theorem pwL_len {k : Int} (h : k.natAbs < 10000) : (pwL k).length ≤ 5 := by
  unfold pwL
  split
  · have := TL.numL_len (n := (-k).toNat) (k := 4) (by decide) (by omega)
    rw [List.length_cons]
    omega
  · have := TL.numL_len (n := k.toNat) (k := 4) (by decide) (by omega)
    omega
theorem dec_mem {c : Nat} (h : 48 ≤ c ∧ c ≤ 57) : c ∈ decL := by
  have x := digit_in h
  rw [txt_digits, txt_list] at x
  exact x
theorem numL_sh {n : Nat} (h : (TL.numL n).length ≤ 1300) : ShT decL 1300 (TL.numL n) (TL.numL n) 0 := ⟨.inl ⟨rfl, rfl⟩, fun c m => dec_mem (TL.numL_digits n c m), TL.numL_ne _, h⟩
theorem P10_if {k : Int} : P10 (if k > 0 then k else 0) = P10 k := by
  by_cases z : k > 0
  · rw [if_pos z]
  · rw [if_neg z, P10_nn (by omega), P10_nn (by omega)]
theorem dec_rdT {n : Nat} {k : Int} (h : (TL.numL n).length ≤ 1300) (hb : n < 2 ^ 4400) (hk : k.natAbs ≤ 1200) : RdT (TL.numL n ++ 101 :: pwL k) ((n : Int) * P10 k) (P10 (-k)) := by
  refine .inl ⟨n, k, .inr (.inr ⟨_, _, _, 0, k, rfl, numL_sh h, .inr ⟨_, rfl, pwL_T hk⟩, ?_⟩), by omega, by rw [Int.natAbs_natCast]; exact hb, by omega, by omega, rfl, rfl⟩
  rw [TL.numL_val, show k - ((0 : Nat) : Int) = k by omega]
theorem hex_cons : ∀ (l : List Nat) (a : Nat), l.foldl (fun a c => a * 16 + Hx.hv c) a = a * 16 ^ l.length + l.foldl (fun a c => a * 16 + Hx.hv c) 0
  | [], a => by show a = a * 1 + 0; omega
  | c :: l, a => by
    rw [List.foldl_cons, List.foldl_cons, hex_cons l (a * 16 + Hx.hv c), hex_cons l (0 * 16 + Hx.hv c), List.length_cons, Nat.pow_succ, Nat.add_mul, Nat.zero_mul, Nat.zero_add, Nat.mul_assoc, Nat.mul_comm 16]
    omega
theorem hexL_hv : ∀ k ∈ List.range 16, ∃ c, hexL[k]? = some c ∧ c ∈ hexL ∧ Hx.hv c = k := by
  intro k hk
  have h : k < 16 := List.mem_range.mp hk
  have e : k = 0 ∨ k = 1 ∨ k = 2 ∨ k = 3 ∨ k = 4 ∨ k = 5 ∨ k = 6 ∨ k = 7 ∨ k = 8 ∨ k = 9 ∨ k = 10 ∨ k = 11 ∨ k = 12 ∨ k = 13 ∨ k = 14 ∨ k = 15 := by omega
  rcases e with rfl | rfl | rfl | rfl | rfl | rfl | rfl | rfl | rfl | rfl | rfl | rfl | rfl | rfl | rfl | rfl <;> exact ⟨_, rfl, by decide, by decide⟩
theorem hex_rdT {L : List Nat} {k : Int} (hl : L.length = 6) (hm : ∀ c ∈ L, c ∈ hexL) (hk : k.natAbs ≤ 50) : RdT (48 :: 120 :: ((L.take 4 ++ 46 :: L.drop 4) ++ 112 :: pwL (k + 8))) (((Hx.hexNum L : Nat) : Int) * P2 k) (P2 (-k)) := by
  have lt : Hx.hexNum L < 16 ^ L.length := hex_lt (hexL_all hm)
  rw [hl] at lt
  refine .inr ⟨((Hx.hexNum L : Nat) : Int), k, .inr (.inl ⟨_, _, L, 2, k + 8, rfl, ⟨.inr ⟨L.take 4, L.drop 4, (List.take_append_drop ..).symm, rfl, by rw [List.length_drop]; omega⟩, hm, (fun z => by rw [z] at hl; cases hl), by omega⟩, pwL_T (by omega), ?_⟩), by omega, ?_, by omega, by omega, rfl, rfl⟩
  · rw [show k + 8 - 4 * ((2 : Nat) : Int) = k by omega]
  · rw [Int.natAbs_natCast]
    exact Nat.lt_of_lt_of_le lt (show 16 ^ 6 ≤ 2 ^ 100 by decide)
theorem big_n {T m n : Nat} (hT : T < 10 ^ 14) (hm : m ≤ 1190) (h : n ≤ T * 10 ^ m + 1) : (TL.numL n).length ≤ 1300 ∧ n < 2 ^ 4400 := by
  have a : n < 10 ^ (15 + m) := by
    have p : 0 < 10 ^ m := Nat.pow_pos (by decide)
    have x : (T + 1) * 10 ^ m ≤ 10 ^ 14 * 10 ^ m := Nat.mul_le_mul_right _ hT
    rw [Nat.add_mul, Nat.one_mul] at x
    rw [Nat.pow_add]
    generalize T * 10 ^ m = A at *
    generalize 10 ^ m = B at *
    omega
  refine ⟨Nat.le_trans (TL.numL_len (by omega) a) (by omega), Nat.lt_of_lt_of_le a ?_⟩
  refine Nat.le_trans (Nat.pow_le_pow_right (by decide) (show 15 + m ≤ 3 * 402 by omega)) ?_
  rw [Nat.pow_mul]
  refine Nat.le_trans (Nat.pow_le_pow_left (show 10 ^ 3 ≤ 2 ^ 10 by decide) 402) ?_
  rw [← Nat.pow_mul]
  exact Nat.pow_le_pow_right (by decide) (by decide)
theorem mid_n {V t : Int} {m : Nat} (v0 : 0 < V) (v1 : V ≤ 8388608) (t0 : 0 ≤ t) (t1 : t < 3) (hm : m ≤ 1190) : ∃ n : Nat, V * 5 ^ 9 * P10 (m : Nat) + t - 1 = (n : Int) ∧ (TL.numL n).length ≤ 1300 ∧ n < 2 ^ 4400 := by
  obtain ⟨T, hT⟩ : ∃ T : Nat, (T : Int) = V * 5 ^ 9 := ⟨(V * 5 ^ 9).toNat, by omega⟩
  have e : V * 5 ^ 9 * P10 (m : Nat) = ((T * 10 ^ m : Nat) : Int) := by
    rw [← hT, Int.natCast_mul, Int.natCast_pow]
    rfl
  have p : 0 < 10 ^ m := Nat.pow_pos (by decide)
  have T1 : 1 ≤ T := by omega
  have g : 1 ≤ T * 10 ^ m := Nat.mul_pos T1 p
  rw [e]
  have T2 : T < 10 ^ 14 := by omega
  refine ⟨T * 10 ^ m + t.toNat - 1, ?_, big_n T2 hm ?_⟩
  · clear hT e
    generalize T * 10 ^ m = A at *
    omega
  · clear hT e
    generalize T * 10 ^ m = A at *
    omega
theorem P10_9 {m : Nat} : (10 : Int) ^ (9 : Int).toNat * P10 (m : Nat) = P10 (-(-(9 + (m : Nat)))) := by
  unfold P10
  rw [← Int.pow_add, show (9 : Int).toNat + ((m : Nat) : Int).toNat = (-(-(9 + (m : Nat)) : Int)).toNat by omega]
theorem big_12900 {n : Nat} (h : n < 2 ^ 4400) : ((n : Nat) : Int).natAbs < 2 ^ 12900 := by
  rw [Int.natAbs_natCast]
  exact Nat.lt_of_lt_of_le h (Nat.pow_le_pow_right (by decide) (by decide))
def sp__law_near_middle : Spc := fun ds hc Q _ => ∃ b r q N p l h, ds = [.ref r, .lst (valL p l h)] ∧ Dk b r q N hc ∧ N < 900000 ∧ Sm p l h ∧ p ≤ 6 ∧ -8 ≤ l ∧ h ≤ 8 ∧ ∀ rest num den hc', RdT rest num den → rest.length ≤ 5000 → Dk b r q (N + 4) hc' → Q (.lst [.str (txt rest), .lst [.int num, .int den]]) hc'
theorem len__law_near_middle {ds : List D} {hc : CH} {Q E} (h : sp__law_near_middle ds hc Q E) : ds.length = 2 := by
  obtain ⟨b, r, q, N, p, l, h, rfl, _⟩ := h
  rfl
theorem pure__law_near_middle {ds : List D} {hc : CH} {Q : D → CH → Prop} {E} (h : sp__law_near_middle ds hc Q E) : c__law_near_middle { nx := fun _ hc' => Q .non hc', rt := Q, xp := fun x _ hc' => E x hc' } (startC N__law_near_middle ds) hc := by
  obtain ⟨b, r, q, N, p, l, h, rfl, dk, hN, s, p6, l8, h8, k⟩ := h
  have f := s.f
  have p1 := f.p0
  have lh := f.lh
  obtain ⟨vl, vb⟩ := val_len s
  obtain ⟨cb, cn, c2⟩ := cnt_sm s
  unfold c__law_near_middle N__law_near_middle
  refine seq_step fun M hM => ?_
  walk_at "n"
  rw [vl]
  refine ⟨b, r, q, _, _, rfl, dk, by omega, by omega, le18 (by omega), fun a hc1 a0 a1 dk => ?_⟩
  walk_at "n"
  refine hM _ _ ?_
  refine seq_step fun M hM => ?_
  walk_at "n"
  refine ⟨b, r, q, _, _, rfl, dk, by omega, by decide, by decide, fun y hc2 y0 y1 dk => ?_⟩
  walk_at "n"
  refine ⟨by decide, b, r, q, _, _, rfl, dk, by omega, by decide, by decide, fun z hc3 z0 z1 dk => ?_⟩
  have pk : ∃ m : Nat, m ≤ 1190 ∧ atI [D.int 1, .int 6, .int y] z = some (.int (m : Nat)) := by
    rcases (show z = 0 ∨ z = 1 ∨ z = 2 by omega) with rfl | rfl | rfl
    · exact ⟨1, by decide, rfl⟩
    · exact ⟨6, by decide, rfl⟩
    · exact ⟨y.toNat, by omega, by rw [show ((y.toNat : Nat) : Int) = y by omega]; rfl⟩
  obtain ⟨m, m1, em⟩ := pk
  refine oth_some em (hM _ _ ?_)
  clear em
  refine seq_step fun M hM => ?_
  walk_at "n"
  refine ⟨m, rfl, by omega, by omega, ?_⟩
  walk_at "n"
  refine hM _ _ ?_
  refine seq_step fun M hM => ?_
  walk_at "n"
  refine oth_some (val_at s a0 (by omega)) ?_
  walk_at "n"
  refine oth_some (val_at s (show 0 ≤ a + 1 by omega) (by omega)) ?_
  walk_at "n"
  have vs : ∀ c, 0 ≤ c → c ≤ cntI p l h → 0 ≤ vV p l c ∧ vV p l c ≤ 4194304 := fun c a b => ⟨vV_nn a, vV_le p1 p6 lh l8 h8 a b⟩
  obtain ⟨u0, u1⟩ := vs a a0 (by omega)
  obtain ⟨_, w1⟩ := vs (a + 1) (by omega) (by omega)
  have w0 := vV_lt (p := p) (l := l) a0
  obtain ⟨V, hV⟩ : ∃ V, V = vV p l a + vV p l (a + 1) := ⟨_, rfl⟩
  rw [← hV]
  have V0 : 0 < V := by omega
  have V1 : V ≤ 8388608 := by omega
  clear hV
  refine ⟨⟨by decide, by decide, by decide⟩, mulOk_r (by decide), mulOk 60 5000 (Nat.lt_trans (show (V * 5 ^ Int.toNat 9).natAbs < 100000000000000 by show (V * 5 ^ 9).natAbs < _; omega) (by decide)) (P10_b 1190 5000 (by omega) (by decide)) (by decide), b, r, q, _, _, rfl, dk, by omega, by decide, by decide, fun t hc4 t0 t1 dk => ?_⟩
  walk_at "n"
  obtain ⟨n, en, nl, nb⟩ := mid_n V0 V1 t0 t1 m1
  rw [show V * 5 ^ Int.toNat 9 * P10 (m : Nat) + t - 1 = (n : Int) from en]
  refine hM _ _ ?_
  clear en
  walk_at "n"
  have ew : (9 : Int) + (m : Nat) = ((9 + m : Nat) : Int) := by omega
  have ml : (TL.numL (9 + m)).length ≤ 4 := TL.numL_len (by decide) (by omega)
  rw [txt_num, show Str.ofString "e-" = txt [101, 45] by decide +kernel, txt_app, ew, txt_num, txt_app, txt_len, txt_len, txt_len, txt_len, List.length_append, List.length_cons, List.length_cons, List.length_nil]
  have sz := sizeLine_eq
  have mb : ((9 + m : Nat) : Int).natAbs < 2 ^ 12900 := big_12900 (Nat.lt_of_lt_of_le (show 9 + m < 2 ^ 11 by omega) (Nat.pow_le_pow_right (by decide) (by decide)))
  refine ⟨big_12900 nb, by clear nb mb; omega, mb, by clear nb mb; omega, ⟨by decide, by decide, by decide⟩, mulOk_l (by decide), by clear nb mb; omega, by clear nb mb; omega, ?_⟩
  clear mb
  have rd := dec_rdT (k := -(9 + (m : Nat))) nl nb (by clear nb; omega)
  rw [P10_nn (show -(9 + (m : Nat) : Int) ≤ 0 by clear nb; omega), Int.mul_one, ← P10_9] at rd
  have ep : pwL (-(9 + (m : Nat))) = 45 :: TL.numL (9 + m) := by
    unfold pwL
    rw [if_pos (by clear nb; omega), show (- -(9 + (m : Nat) : Int)).toNat = 9 + m by clear nb; omega]
  rw [ep] at rd
  rw [List.append_assoc]
  refine k _ _ _ _ rd ?_ dk
  clear nb
  simp only [List.length_append, List.length_cons, List.length_nil]
  omega
theorem at__law_near_middle (T : Txt K mg) (B : BaseT K mg base) (KX : K.In base) (PS : Sup P mf) (A__law_draw : FnAt P w K mg base 1 "_law_draw" ["_law_deck_here", "_law_many"] sp__law_draw) (A__law_power : FnAt P w K mg base 1 "_law_power" ["_law_base", "_law_number"] sp__law_power) : FnAt P w K mg base 2 "_law_near_middle" ["_law_deck_here", "_law_values"] sp__law_near_middle :=
  fn_at (c := c__law_near_middle) T.d__law_near_middle sc__law_near_middle (fun f cdv A outer s H E hr => by
    have nd := sc__law_near_middle.nd
    exact (css_cons (cs_set nd (ce_f A__law_draw hr (ca_cons (ce_v 0) (ca_cons (ce_op op_subD (CE.bo (ce_bf bf_len T.n_len (cba_cons (CE.bo (ce_v 1)) cba_nil))) (CE.bo ce_i)) ca_nil))))
    (css_cons (cs_set nd (ce_ix (CE.bo (ce_lst (ca_cons ce_i (ca_cons ce_i (ca_cons (ce_f A__law_draw hr (ca_cons (ce_v 0) (ca_cons ce_i ca_nil))) ca_nil))))) (ce_f A__law_draw hr (ca_cons (ce_v 0) (ca_cons ce_i ca_nil)))))
    (css_cons (cs_set nd (ce_f A__law_power hr (ca_cons ce_i (ca_cons (ce_v 3) ca_nil))))
    (css_cons (cs_set nd (ce_op op_subD (CE.bo (ce_op op_addD (CE.bo (ce_op op_mulD (CE.bo (ce_op op_mulD (CE.bo (ce_op op_addD (CE.bo (ce_ix (CE.bo (ce_v 1)) (ce_v 2))) (CE.bo (ce_ix (CE.bo (ce_v 1)) (ce_op op_addD (CE.bo (ce_v 2)) (CE.bo ce_i)))))) (CE.bo (ce_op op_powD (CE.bo ce_i) (CE.bo ce_i))))) (CE.bo (ce_v 4)))) (CE.bo (ce_f A__law_draw hr (ca_cons (ce_v 0) (ca_cons ce_i ca_nil)))))) (CE.bo ce_i)))
    (css_one (cs_ret (CE.bo (ce_lst (ca_cons (ce_op op_addD (CE.bo (ce_op op_addD (CE.bo (ce_bt (bt_str T.lim) T.n_str (cba_cons (CE.bo (ce_v 5)) cba_nil))) (CE.bo ce_s))) (CE.bo (ce_bt (bt_str T.lim) T.n_str (cba_cons (CE.bo (ce_op op_addD (CE.bo ce_i) (CE.bo (ce_v 3)))) cba_nil)))) (ca_cons (ce_lst (ca_cons (ce_v 5) (ca_cons (ce_op op_mulD (CE.bo (ce_op op_powD (CE.bo ce_i) (CE.bo ce_i))) (CE.bo (ce_v 4))) ca_nil))) ca_nil)))))))))))
    (fun ds hc Q E h => len__law_near_middle h) (fun ds hc Q E h => pure__law_near_middle h) (fun _ _ _ _ _ _ us hl => match us, hl with | [_, _], _ => rfl)
abbrev N__law_text : List Str := ["_law_deck_here", "_law_values", "_law_way", "_law_number", "_law_k", "_law_signs", "_law_left", "_law_shown", "_law_turn"]
def c__law_text : CSx :=
  (cSeq (cPar 2 3 (cCons (cCall sp__law_draw (cCons (cV 0) (cCons (cC (.int 4)) cNil))) (cCons (cCall sp__law_draw (cCons (cV 0) (cCons (cOp ixD (cLst (cCons (cC (.int 10)) (cCons (cC (.int 1000)) (cCons (cOp powD (cC (.int 10)) (cC (.int 6))) cNil)))) (cCall sp__law_draw (cCons (cV 0) (cCons (cC (.int 3)) cNil)))) cNil))) cNil)))
    (cSeq (cIfS (cT (cOp eqD (cV 2) (cC (.int 0))))
    (cRet (cCall sp__law_near_middle (cCons (cV 0) (cCons (cV 1) cNil))))
    cNext)
    (cSeq (cIfS (cT (cOp eqD (cV 2) (cC (.int 1))))
    (cSeq (cAsg (cOp subD (cCall sp__law_draw (cCons (cV 0) (cCons (cC (.int 31)) cNil))) (cC (.int 18))) (gN 4))
    (cSeq (cPar3 5 6 7 (cCons (cC (.str "0123456789abcdef")) (cCons (cV 3) (cCons (cC (.str "")) cNil))))
    (cSeq (cFor (cR1 (cCons (cC (.int 6)) cNil)) (gN 8)
    (cPar 7 6 (cCons (cOp addD (cOp ixD (cV 5) (cOp modD (cFn intFD (cCons (cV 6) cNil)) (cC (.int 16)))) (cV 7)) (cCons (cOp fdivD (cV 6) (cC (.int 16))) cNil))))
    (cSeq (cAsg (cOp addD (cOp addD (cOp addD (cOp addD (cOp addD (cC (.str "0x")) (cSl (cV 7) cNoP (cSoP (cC (.int 4))))) (cC (.str "."))) (cSl (cV 7) (cSoP (cC (.int 4))) cNoP)) (cC (.str "p"))) (cFn strD (cCons (cOp addD (cV 4) (cC (.int 8))) cNil))) (gN 7))
    (cRet (cLst (cCons (cV 7) (cCons (cLst (cCons (cOp shlD (cV 3) (cFn maxD2 (cCons (cC (.int 0)) (cCons (cV 4) cNil)))) (cCons (cOp shlD (cC (.int 1)) (cFn maxD2 (cCons (cC (.int 0)) (cCons (cOp subD (cC (.int 0)) (cV 4)) cNil)))) cNil))) cNil))))))))
    cNext)
    (cSeq (cAsg (cOp subD (cCall sp__law_draw (cCons (cV 0) (cCons (cC (.int 13)) cNil))) (cC (.int 7))) (gN 4))
    (cRet (cLst (cCons (cOp addD (cOp addD (cFn strD (cCons (cV 3) cNil)) (cC (.str "e"))) (cFn strD (cCons (cV 4) cNil))) (cCons (cLst (cCons (cOp mulD (cV 3) (cCall sp__law_power (cCons (cC (.int 10)) (cCons (cFn maxD2 (cCons (cC (.int 0)) (cCons (cV 4) cNil))) cNil)))) (cCons (cCall sp__law_power (cCons (cC (.int 10)) (cCons (cFn maxD2 (cCons (cC (.int 0)) (cCons (cOp subD (cC (.int 0)) (cV 4)) cNil))) cNil))) cNil))) cNil))))))))
def sp__law_text : Spc := fun ds hc Q _ => ∃ b r q N p l h, ds = [.ref r, .lst (valL p l h)] ∧ Dk b r q N hc ∧ N < 800000 ∧ Sm p l h ∧ p ≤ 6 ∧ -8 ≤ l ∧ h ≤ 8 ∧ ∀ rest num den hc', RdT rest num den → rest.length ≤ 5000 → Dk b r q (N + 8) hc' → Q (.lst [.str (txt rest), .lst [.int num, .int den]]) hc'
theorem len__law_text {ds : List D} {hc : CH} {Q E} (h : sp__law_text ds hc Q E) : ds.length = 2 := by
  obtain ⟨b, r, q, N, p, l, h, rfl, _⟩ := h
  rfl
theorem pure__law_text {ds : List D} {hc : CH} {Q : D → CH → Prop} {E} (h : sp__law_text ds hc Q E) : c__law_text { nx := fun _ hc' => Q .non hc', rt := Q, xp := fun x _ hc' => E x hc' } (startC N__law_text ds) hc := by
  obtain ⟨b, r, q, N, p, l, h, rfl, dk, hN, s, p6, l8, h8, k⟩ := h
  have sz := sizeLine_eq
  unfold c__law_text N__law_text
  refine seq_step fun M hM => ?_
  walk_at "n"
  refine ⟨b, r, q, _, _, rfl, dk, by omega, by decide, by decide, fun y hc1 y0 y1 dk => ?_⟩
  walk_at "n"
  refine ⟨⟨by decide, by decide, by decide⟩, by decide, b, r, q, _, _, rfl, dk, by omega, by decide, by decide, fun z hc2 z0 z1 dk => ?_⟩
  have pk : ∃ m : Int, 0 < m ∧ m ≤ 1000000 ∧ atI [D.int 10, .int 1000, .int (10 ^ Int.toNat 6)] z = some (.int m) := by
    rcases (show z = 0 ∨ z = 1 ∨ z = 2 by omega) with rfl | rfl | rfl
    · exact ⟨10, by decide, by decide, rfl⟩
    · exact ⟨1000, by decide, by decide, rfl⟩
    · exact ⟨1000000, by decide, by decide, rfl⟩
  obtain ⟨m, m0, m1, em⟩ := pk
  refine oth_some em ?_
  clear em
  refine ⟨b, r, q, _, _, rfl, dk, by omega, m0, le18 (by omega), fun n hc3 n0 n1 dk => ?_⟩
  obtain ⟨n, rfl⟩ : ∃ j : Nat, n = (j : Int) := ⟨n.toNat, by omega⟩
  have n1 : n < 1000000 := by omega
  clear n0 m0 m1 z0 z1
  walk_at "n"
  refine hM _ _ ?_
  refine seq_step fun M hM => ?_
  walk_at "n"
  refine ite2 (fun g => ?_) (fun g => ?_)
  · clear g
    walk_at "n"
    exact ⟨b, r, q, _, p, l, h, rfl, dk, by omega, s, p6, l8, h8, fun rest num den hc' rd rl dk => k rest num den hc' rd rl (dk.mono (by omega))⟩
  clear g
  refine hM _ _ ?_
  refine seq_step fun M hM => ?_
  walk_at "n"
  refine ite2 (fun g => ?_) (fun g => ?_)
  · clear g
    refine seq_step fun M2 hM2 => ?_
    walk_at "n"
    refine ⟨b, r, q, _, _, rfl, dk, by omega, by decide, by decide, fun e hc4 e0 e1 dk => ?_⟩
    walk_at "n"
    obtain ⟨e', he'⟩ : ∃ e', e' = e - 18 := ⟨_, rfl⟩
    rw [← he']
    have eb : -18 ≤ e' ∧ e' ≤ 12 := by omega
    clear he' e0 e1
    refine hM2 _ _ ?_
    refine seq_step fun M2 hM2 => ?_
    walk_at "n"
    rw [show (D.str "0123456789abcdef") = .str (txt hexL) from congrArg D.str txt_hexs]
    refine hM2 _ _ ?_
    refine seq_step fun M2 hM2 => ?_
    refine for_step fun R hR => ?_
    walk_at "n"
    refine hR _ _ (fun i sc h' => h' = hc4 ∧ ∃ (L : List Nat) (a : Nat) (o8 : Sl), L.length = i ∧ (∀ c ∈ L, c ∈ hexL) ∧ Hx.hexNum L + a * 16 ^ i = n ∧ sc = [.val (.ref r), .val (.lst (valL p l h)), .val (.int y), .val (.int (n : Nat)), .val (.int e'), .val (.str (txt hexL)), .val (.int (a : Nat)), .val (.str (txt L)), o8]) ⟨rfl, [], n, _, rfl, (fun c m => nomatch m), by show 0 + n * 1 = n; omega, rfl⟩ (fun j d sc h' Nx e I nx => ?_) (fun sc h' I => ?_)
    · obtain ⟨rfl, L, a, o8, Ll, Lm, Ln, rfl⟩ := I
      obtain ⟨rfl, jp⟩ := rng_at e
      clear e
      walk_at "n"
      obtain ⟨c, ec, cm, cv⟩ := hexL_hv (a % 16) (List.mem_range.mpr (Nat.mod_lt _ (by decide)))
      refine ⟨by decide, ?_⟩
      refine ix_txt ec (by omega) (by decide) ?_
      walk_at "n"
      rw [txt_len, txt_len, txt_app]
      refine ⟨by rw [Ll, List.length_singleton]; omega, divOk 16 (by decide) (by decide) (by decide), ?_⟩
      rw [show ((a : Nat) : Int) / 16 = ((a / 16 : Nat) : Int) by omega]
      refine nx _ _ ⟨rfl, [c] ++ L, a / 16, _, by rw [List.length_append, Ll, List.length_singleton]; omega, fun x m => ?_, ?_, rfl⟩
      · rcases List.mem_append.mp m with m | m
        · rw [List.mem_singleton.mp m]
          exact cm
        · exact Lm x m
      · rw [← Ln]
        show List.foldl _ (0 * 16 + Hx.hv c) L + _ = _
        rw [hex_cons, Ll, cv, Nat.zero_mul, Nat.zero_add, Nat.pow_succ]
        have e1 : a * 16 ^ j = a % 16 * 16 ^ j + a / 16 * (16 ^ j * 16) := by
          rw [Nat.mul_comm (16 ^ j) 16, ← Nat.mul_assoc, ← Nat.add_mul]
          congr 1
          omega
        rw [e1]
        show _ = List.foldl _ 0 L + _
        omega
    · obtain ⟨rfl, L, a, o8, Ll, Lm, Ln, rfl⟩ := I
      refine hM2 _ _ ?_
      rw [rng_len, show (6 : Int).toNat = 6 from rfl] at Ll Ln
      have a0 : a = 0 := by
        rw [show 16 ^ 6 = 16777216 from rfl] at Ln
        omega
      subst a0
      rw [Nat.zero_mul, Nat.add_zero] at Ln
      refine seq_step fun M2 hM2 => ?_
      walk_at "n"
      refine sl_head (k := 4) (by omega) ?_
      walk_at "n"
      have cf : cutX L (some 4) none = L.drop 4 := cut_from L 4
      have pl := pwL_len (k := e' + 8) (by omega)
      have mb : (e' + 8).natAbs < 2 ^ 12900 := Nat.lt_of_lt_of_le (show (e' + 8).natAbs < 2 ^ 20 by omega) (Nat.pow_le_pow_right (by decide) (by decide))
      have t4 : (L.take 4).length = 4 := by rw [List.length_take]; omega
      have d4 : (L.drop 4).length = 2 := by rw [List.length_drop]; omega
      have ps := pwL_str (k := e' + 8) (by clear mb; omega)
      rw [show Str.ofString "0x" = txt [48, 120] by decide +kernel, show Str.ofString "." = txt [46] by decide +kernel, show Str.ofString "p" = txt [112] by decide +kernel, ps]
      simp only [txt_app, txt_len, List.length_append, List.length_cons, List.length_nil, t4]
      refine ⟨by clear mb; omega, by clear mb; omega, ?_⟩
      refine ⟨by rw [txt_len]; clear mb; omega, ?_⟩
      rw [txt_cut, cf]
      walk_at "n"
      simp only [txt_app, txt_len, List.length_append, List.length_cons, List.length_nil, t4, d4]
      refine ⟨by clear mb; omega, by clear mb; omega, mb, by clear mb; omega, ?_⟩
      clear mb
      refine hM2 _ _ ?_
      walk_at "n"
      have eP : ∀ s : Int, (2 : Int) ^ (if s > 0 then s else 0).toNat = P2 s := P2_max
      have sh1 : ∀ s : Int, s ≤ 100 → ∀ x : Int, x.natAbs < 2 ^ 100 → CShl x (if s > 0 then s else 0) := fun s hs x hx => shlOk (a := 100) (b := 3000) hx (by split <;> omega) (by split <;> omega) (by decide)
      have n0 : (0 : Int) - e' = -e' := by omega
      refine ⟨sh1 e' (by omega) n (Nat.lt_of_lt_of_le (show ((n : Nat) : Int).natAbs < 2 ^ 20 by omega) (by decide)), sh1 (0 - e') (by omega) 1 (Nat.lt_trans (show (1 : Int).natAbs < 2 ^ 2 by decide) (by decide)), by decide, by decide, ?_⟩
      rw [eP, eP, n0, Int.one_mul]
      have rd := hex_rdT (L := L) (k := e') Ll Lm (by omega)
      rw [Ln] at rd
      have er : 48 :: 120 :: (L.take 4 ++ [46] ++ L.drop 4 ++ [112] ++ pwL (e' + 8)) = 48 :: 120 :: ((L.take 4 ++ 46 :: L.drop 4) ++ 112 :: pwL (e' + 8)) := by
        simp only [List.append_assoc, List.cons_append, List.nil_append]
      rw [er]
      refine k _ _ _ _ rd ?_ (dk.mono (by omega))
      simp only [List.length_append, List.length_cons, t4, d4]
      omega
  clear g
  refine hM _ _ ?_
  refine seq_step fun M hM => ?_
  walk_at "n"
  refine ⟨b, r, q, _, _, rfl, dk, by omega, by decide, by decide, fun e hc4 e0 e1 dk => ?_⟩
  walk_at "n"
  obtain ⟨e', he'⟩ : ∃ e', e' = e - 7 := ⟨_, rfl⟩
  rw [← he']
  have eb : e'.natAbs ≤ 7 := by omega
  clear he' e0 e1
  refine hM _ _ ?_
  walk_at "n"
  have nl : (TL.numL n).length ≤ 6 := TL.numL_len (by decide) (by omega)
  have pl := pwL_len (k := e') (by omega)
  have nb : n < 2 ^ 4400 := Nat.lt_of_lt_of_le (show n < 2 ^ 20 by omega) (Nat.pow_le_pow_right (by decide) (by decide))
  have mb : e'.natAbs < 2 ^ 12900 := Nat.lt_of_lt_of_le (show e'.natAbs < 2 ^ 20 by omega) (Nat.pow_le_pow_right (by decide) (by decide))
  rw [txt_num, show Str.ofString "e" = txt [101] by decide +kernel, txt_app, pwL_str (by omega), txt_app, txt_len, txt_len, txt_len, txt_len, List.length_append, List.length_singleton]
  refine ⟨big_12900 nb, by clear nb mb; omega, mb, by clear nb mb; omega, ?_⟩
  clear mb
  refine ⟨_, rfl, by clear nb; split <;> omega, by clear nb; split <;> omega, ?_⟩
  rw [P10_if]
  walk_at "n"
  refine ⟨mulOk 20 5000 (show ((n : Nat) : Int).natAbs < 2 ^ 20 by clear nb; omega) (P10_b 1190 5000 (by clear nb; omega) (by decide)) (by decide), ?_⟩
  refine ⟨_, rfl, by clear nb; split <;> omega, by clear nb; split <;> omega, ?_⟩
  rw [P10_if, show (0 : Int) - e' = -e' by clear nb; omega]
  walk_at "n"
  refine ⟨by decide, by decide, ?_⟩
  rw [List.append_assoc]
  refine k _ _ _ _ (dec_rdT (k := e') (by clear nb; omega) nb (by clear nb; omega)) ?_ (dk.mono (by clear nb; omega))
  clear nb
  simp only [List.length_append, List.length_cons, List.length_nil]
  omega
theorem at__law_text (T : Txt K mg) (B : BaseT K mg base) (KX : K.In base) (PS : Sup P mf) (A__law_draw : FnAt P w K mg base 1 "_law_draw" ["_law_deck_here", "_law_many"] sp__law_draw) (A__law_near_middle : FnAt P w K mg base 2 "_law_near_middle" ["_law_deck_here", "_law_values"] sp__law_near_middle) (A__law_power : FnAt P w K mg base 1 "_law_power" ["_law_base", "_law_number"] sp__law_power) : FnAt P w K mg base 3 "_law_text" ["_law_deck_here", "_law_values"] sp__law_text :=
  fn_at (c := c__law_text) T.d__law_text sc__law_text (fun f cdv A outer s H E hr => by
    have nd := sc__law_text.nd
    exact (css_cons (cs_par rfl nd (ca_cons (ce_f A__law_draw hr (ca_cons (ce_v 0) (ca_cons ce_i ca_nil))) (ca_cons (ce_f A__law_draw hr (ca_cons (ce_v 0) (ca_cons (ce_ix (CE.bo (ce_lst (ca_cons ce_i (ca_cons ce_i (ca_cons (ce_op op_powD (CE.bo ce_i) (CE.bo ce_i)) ca_nil))))) (ce_f A__law_draw hr (ca_cons (ce_v 0) (ca_cons ce_i ca_nil)))) ca_nil))) ca_nil)))
    (css_cons (cs_if (ct_cmp (op_eqDD hr.g.units) (CE.bo (ce_v 2)) (CE.bo ce_i))
    (css_one (cs_ret (CE.bo (ce_f A__law_near_middle hr (ca_cons (ce_v 0) (ca_cons (ce_v 1) ca_nil))))))
    css_nil)
    (css_cons (cs_if (ct_cmp (op_eqDD hr.g.units) (CE.bo (ce_v 2)) (CE.bo ce_i))
    (css_cons (cs_set nd (ce_op op_subD (CE.bo (ce_f A__law_draw hr (ca_cons (ce_v 0) (ca_cons ce_i ca_nil)))) (CE.bo ce_i)))
    (css_cons (cs_par3 rfl nd (ca_cons ce_s (ca_cons (ce_v 3) (ca_cons ce_s ca_nil))))
    (css_cons (cs_for hr.p rfl (ci_r1 T.n_range (ca_cons ce_i ca_nil)) (cg_n 8 nd)
    (css_one (cs_par rfl nd (ca_cons (ce_op op_addD (CE.bo (ce_ix (CE.bo (ce_v 5)) (ce_op op_modD (CE.bo (ce_bt bt_int T.n_int (cba_cons (CE.bo (ce_v 6)) cba_nil))) (CE.bo ce_i)))) (CE.bo (ce_v 7))) (ca_cons (ce_op op_fdivD (CE.bo (ce_v 6)) (CE.bo ce_i)) ca_nil)))))
    (css_cons (cs_set nd (ce_op op_addD (CE.bo (ce_op op_addD (CE.bo (ce_op op_addD (CE.bo (ce_op op_addD (CE.bo (ce_op op_addD (CE.bo ce_s) (CE.bo (ce_sl (CE.bo (ce_v 7)) co_none (co_some ce_i))))) (CE.bo ce_s))) (CE.bo (ce_sl (CE.bo (ce_v 7)) (co_some ce_i) co_none)))) (CE.bo ce_s))) (CE.bo (ce_bt (bt_str T.lim) T.n_str (cba_cons (CE.bo (ce_op op_addD (CE.bo (ce_v 4)) (CE.bo ce_i))) cba_nil)))))
    (css_one (cs_ret (CE.bo (ce_lst (ca_cons (ce_v 7) (ca_cons (ce_lst (ca_cons (ce_op op_shlD (CE.bo (ce_v 3)) (CE.bo (ce_bf (bf_max2 rfl) T.n_max (cba_cons (CE.bo ce_i) (cba_cons (CE.bo (ce_v 4)) cba_nil))))) (ca_cons (ce_op op_shlD (CE.bo ce_i) (CE.bo (ce_bf (bf_max2 rfl) T.n_max (cba_cons (CE.bo ce_i) (cba_cons (CE.bo (ce_op op_subD (CE.bo ce_i) (CE.bo (ce_v 4)))) cba_nil))))) ca_nil))) ca_nil))))))))))
    css_nil)
    (css_cons (cs_set nd (ce_op op_subD (CE.bo (ce_f A__law_draw hr (ca_cons (ce_v 0) (ca_cons ce_i ca_nil)))) (CE.bo ce_i)))
    (css_one (cs_ret (CE.bo (ce_lst (ca_cons (ce_op op_addD (CE.bo (ce_op op_addD (CE.bo (ce_bt (bt_str T.lim) T.n_str (cba_cons (CE.bo (ce_v 3)) cba_nil))) (CE.bo ce_s))) (CE.bo (ce_bt (bt_str T.lim) T.n_str (cba_cons (CE.bo (ce_v 4)) cba_nil)))) (ca_cons (ce_lst (ca_cons (ce_op op_mulD (CE.bo (ce_v 3)) (CE.bo (ce_f A__law_power hr (ca_cons ce_i (ca_cons (ce_bf (bf_max2 rfl) T.n_max (cba_cons (CE.bo ce_i) (cba_cons (CE.bo (ce_v 4)) cba_nil))) ca_nil))))) (ca_cons (ce_f A__law_power hr (ca_cons ce_i (ca_cons (ce_bf (bf_max2 rfl) T.n_max (cba_cons (CE.bo ce_i) (cba_cons (CE.bo (ce_op op_subD (CE.bo ce_i) (CE.bo (ce_v 4)))) cba_nil))) ca_nil))) ca_nil))) ca_nil)))))))))))
    (fun ds hc Q E h => len__law_text h) (fun ds hc Q E h => pure__law_text h) (fun _ _ _ _ _ _ us hl => match us, hl with | [_, _], _ => rfl)
abbrev N__law_between : List Str := ["_law_way", "_law_code_here", "_law_side", "_law_odd"]
def c__law_between : CSx :=
  (cSeq (cAsg (cOp subD (cOp addD (cV 1) (cC (.int 1))) (cOp modD (cFn intFD (cCons (cV 1) cNil)) (cC (.int 2)))) (gN 3))
    (cSeq (cIfS (cT (cOp inD (cV 0) (cTup (cCons (cC (.str "zero")) (cCons (cC (.str "out")) (cCons (cC (.str "odd")) cNil))))))
    (cRet (cDSub ["zero", "out", "odd"] (cCons (cV 1) (cCons (cOp addD (cV 1) (cC (.int 1))) (cCons (cV 3) cNil))) (cV 0)))
    cNext)
    (cSeq (cIfS (cT (cOp eqD (cV 2) (cC (.int 0))))
    (cRet (cIf (cT (cOp eqD (cV 0) (cC (.str "away")))) (cOp addD (cV 1) (cC (.int 1))) (cOp addD (cV 1) (cOp modD (cFn intFD (cCons (cV 1) cNil)) (cC (.int 2))))))
    cNext)
    (cRet (cOp addD (cV 1) (cFn intFD (cCons (cOp gtD (cV 2) (cC (.int 0))) cNil)))))))
def sp__law_between : Spc := fun ds hc Q _ => ∃ (w : Str) (c s σ : Int), ds = [.str w, .int c, .int σ] ∧ IsWay w ∧ 0 ≤ c ∧ ((s = 1 ∧ σ < 0) ∨ (s = 2 ∧ σ = 0) ∨ (s = 3 ∧ 0 < σ)) ∧ Q (.int (readI w c s)) hc
theorem len__law_between {ds : List D} {hc : CH} {Q E} (h : sp__law_between ds hc Q E) : ds.length = 3 := by
  obtain ⟨w, c, s, σ, rfl, _⟩ := h
  rfl
theorem ds_one {ks : List Str} {vs : List D} {w : Str} {y : D} {Q : D → CH → Prop} {hc : CH} (h : (ks.zip vs).lookup w = some y) (hl : vs.length = ks.length) (q : Q y hc) : dSub ks vs (.str w) Q hc := ⟨hl, by rw [h]; exact q⟩
theorem in3_yes {w : Str} {P : D → Prop} (h : w = "zero" ∨ w = "out" ∨ w = "odd") (q : P (.bl true)) : inG false (.str w) [.str "zero", .str "out", .str "odd"] P := by
  refine inG_ok (n := 0) (m := 0) (by rcases h with rfl | rfl | rfl <;> decide +kernel) (by decide +kernel) (fun m => q) (fun m => absurd ?_ m)
  rcases h with rfl | rfl | rfl
  · exact .head _
  · exact .tail _ (.head _)
  · exact .tail _ (.tail _ (.head _))
theorem in3_no {w : Str} {P : D → Prop} (h : w = "even" ∨ w = "away") (q : P (.bl false)) : inG false (.str w) [.str "zero", .str "out", .str "odd"] P := by
  refine inG_ok (n := 0) (m := 0) (by rcases h with rfl | rfl <;> decide +kernel) (by decide +kernel) (fun m => ?_) (fun m => q)
  simp only [List.mem_cons, List.not_mem_nil, or_false, D.str.injEq] at m
  rcases h with rfl | rfl <;> exact absurd m (by decide +kernel)
theorem pure__law_between {ds : List D} {hc : CH} {Q : D → CH → Prop} {E} (h : sp__law_between ds hc Q E) : c__law_between { nx := fun _ hc' => Q .non hc', rt := Q, xp := fun x _ hc' => E x hc' } (startC N__law_between ds) hc := by
  obtain ⟨w, c, s, σ, rfl, hw, c0, hs, k⟩ := h
  unfold c__law_between N__law_between
  have ns : s ≠ 0 := by omega
  refine seq_step fun M hM => ?_
  walk_at "n"
  refine ⟨by decide, hM _ _ ?_⟩
  refine seq_step fun M hM => ?_
  rcases hw with rfl | rfl | rfl | rfl | rfl
  · rw [readI_e ns] at k
    walk_at "n"
    refine ⟨by decide, in3_no (.inl rfl) ?_⟩
    walk_at "n"
    refine hM _ _ ?_
    refine seq_step fun M hM => ?_
    walk_at "n"
    refine ite2 (fun g => ?_) (fun g => ?_)
    · have g := of_decide_eq_true g
      have e : (if s = 3 ∨ (s = 2 ∧ c % 2 = 1) then (1 : Int) else 0) = c % 2 := by split <;> omega
      rw [e] at k
      rw [if_neg (by decide +kernel)]
      exact ⟨by decide, k⟩
    · have g : ¬ σ = 0 := fun z => g (decide_eq_true z)
      refine hM _ _ ?_
      walk_at "n"
      have e : (if s = 3 ∨ (s = 2 ∧ c % 2 = 1) then (1 : Int) else 0) = if decide (0 < σ) = true then 1 else 0 := by
        by_cases z : 0 < σ
        · rw [if_pos (decide_eq_true z), if_pos (by omega)]
        · rw [if_neg (by omega), if_neg (by rw [decide_eq_false z]; exact Bool.false_ne_true)]
      rw [e] at k
      exact k
  · rw [readI_a ns] at k
    walk_at "n"
    refine ⟨by decide, in3_no (.inr rfl) ?_⟩
    walk_at "n"
    refine hM _ _ ?_
    refine seq_step fun M hM => ?_
    walk_at "n"
    refine ite2 (fun g => ?_) (fun g => ?_)
    · have g := of_decide_eq_true g
      have e : (if s > 1 then (1 : Int) else 0) = 1 := by split <;> omega
      rw [e] at k
      exact k
    · have g : ¬ σ = 0 := fun z => g (decide_eq_true z)
      refine hM _ _ ?_
      walk_at "n"
      have e : (if s > 1 then (1 : Int) else 0) = if decide (0 < σ) = true then 1 else 0 := by
        by_cases z : 0 < σ
        · rw [if_pos (decide_eq_true z), if_pos (by omega)]
        · rw [if_neg (by omega), if_neg (by rw [decide_eq_false z]; exact Bool.false_ne_true)]
      rw [e] at k
      exact k
  · rw [readI_z ns] at k
    walk_at "n"
    refine ⟨by decide, in3_yes (.inl rfl) ?_⟩
    walk_at "n"
    exact ds_one rfl rfl k
  · rw [readI_u ns] at k
    walk_at "n"
    refine ⟨by decide, in3_yes (.inr (.inl rfl)) ?_⟩
    walk_at "n"
    exact ds_one rfl rfl k
  · rw [readI_o ns] at k
    walk_at "n"
    refine ⟨by decide, in3_yes (.inr (.inr rfl)) ?_⟩
    walk_at "n"
    exact ds_one rfl rfl k
theorem at__law_between (T : Txt K mg) (B : BaseT K mg base) (KX : K.In base) (PS : Sup P mf)  : FnAt P w K mg base 1 "_law_between" ["_law_way", "_law_code_here", "_law_side"] sp__law_between :=
  fn_at (c := c__law_between) T.d__law_between sc__law_between (fun f cdv A outer s H E hr => by
    have nd := sc__law_between.nd
    exact (css_cons (cs_set nd (ce_op op_subD (CE.bo (ce_op op_addD (CE.bo (ce_v 1)) (CE.bo ce_i))) (CE.bo (ce_op op_modD (CE.bo (ce_bt bt_int T.n_int (cba_cons (CE.bo (ce_v 1)) cba_nil))) (CE.bo ce_i)))))
    (css_cons (cs_if (ct_cmp (op_inDD hr.g) (CE.bo (ce_v 0)) (CE.bo (ce_tup (ca_cons ce_s (ca_cons ce_s (ca_cons ce_s ca_nil))))))
    (css_one (cs_ret (CE.bo (ce_dsub hr.g.units1 (cps_cons (ce_v 1) (cps_cons (ce_op op_addD (CE.bo (ce_v 1)) (CE.bo ce_i)) (cps_cons (ce_v 3) cps_nil))) (ce_v 0)))))
    css_nil)
    (css_cons (cs_if (ct_cmp (op_eqDD hr.g.units) (CE.bo (ce_v 2)) (CE.bo ce_i))
    (css_one (cs_ret (CE.bo (ce_if (ct_cmp (op_eqDD hr.g.units) (CE.bo (ce_v 0)) (CE.bo ce_s)) (ce_op op_addD (CE.bo (ce_v 1)) (CE.bo ce_i)) (ce_op op_addD (CE.bo (ce_v 1)) (CE.bo (ce_op op_modD (CE.bo (ce_bt bt_int T.n_int (cba_cons (CE.bo (ce_v 1)) cba_nil))) (CE.bo ce_i))))))))
    css_nil)
    (css_one (cs_ret (CE.bo (ce_op op_addD (CE.bo (ce_v 1)) (CE.bo (ce_bt bt_int T.n_int (cba_cons (CE.bo (ce_cmp op_gtD (CE.bo (ce_v 2)) (CE.bo ce_i))) cba_nil)))))))))))
    (fun ds hc Q E h => len__law_between h) (fun ds hc Q E h => pure__law_between h) (fun _ _ _ _ _ _ us hl => match us, hl with | [_, _, _], _ => rfl)
abbrev N__law_code : List Str := ["_law_values", "_law_way", "_law_num", "_law_den", "_law_top", "_law_x", "_law_code_here", "_law_value"]
def c__law_code : CSx :=
  (cSeq (cAsg (cTup (cCons (cOp subD (cFn lenD (cCons (cV 0) cNil)) (cC (.int 1))) (cCons (cOp mulD (cV 2) (cC (.int 256))) cNil))) (gUn 2 (gCons' (gN 4) (gCons' (gN 5) gNil'))))
    (cSeq (cIfS (cT (cOp geD (cV 5) (cOp mulD (cOp ixD (cV 0) (cV 4)) (cV 3))))
    (cRet (cDGet ["zero", "odd"] (cCons (cOp subD (cV 4) (cC (.int 1))) (cCons (cOp subD (cV 4) (cOp modD (cFn intFD (cCons (cOp addD (cV 4) (cC (.int 1))) cNil)) (cC (.int 2)))) cNil)) (cV 1) (cV 4)))
    cNext)
    (cSeq (cAsg (cOp subD (cFn lenD (cCons (cLc (cIt (cV 0)) (gN 7) (cT (cOp leD (cOp mulD (cV 7) (cV 3)) (cV 5))) (cV 7) [7]) cNil)) (cC (.int 1))) (gN 6))
    (cSeq (cIfS (cT (cOp eqD (cOp mulD (cOp ixD (cV 0) (cV 6)) (cV 3)) (cV 5)))
    (cRet (cV 6))
    cNext)
    (cRet (cCall sp__law_between (cCons (cV 1) (cCons (cV 6) (cCons (cOp subD (cOp mulD (cC (.int 2)) (cV 5)) (cOp mulD (cOp addD (cOp ixD (cV 0) (cV 6)) (cOp ixD (cV 0) (cOp addD (cV 6) (cC (.int 1))))) (cV 3))) cNil)))))))))
def sp__law_code : Spc := fun ds hc Q _ => ∃ (w : Str) (p l h n d : Int), ds = [.lst (valL p l h), .str w, .int n, .int d] ∧ Sm p l h ∧ p ≤ 6 ∧ -8 ≤ l ∧ h ≤ 8 ∧ IsWay w ∧ 0 ≤ n ∧ 0 < d ∧ n.natAbs < 2 ^ 20000 ∧ d.natAbs < 2 ^ 20000 ∧ ∀ c, FlAt p l h (unA n l) (unB d l) c → Q (.int (readI w c (sideU p c (unA n l) (unB d l)))) hc
theorem len__law_code {ds : List D} {hc : CH} {Q E} (h : sp__law_code ds hc Q E) : ds.length = 4 := by
  obtain ⟨w, p, l, h, n, d, rfl, _⟩ := h
  rfl
theorem dg_one {ks : List Str} {vs : List D} {w : Str} {y z : D} {Q : D → CH → Prop} {hc : CH} (h : ((ks.zip vs).lookup w).getD z = y) (hl : vs.length = ks.length) (q : Q y hc) : dGet ks vs (.str w) z Q hc := ⟨hl, by rw [h]; exact q⟩
theorem pure__law_code {ds : List D} {hc : CH} {Q : D → CH → Prop} {E} (h : sp__law_code ds hc Q E) : c__law_code { nx := fun _ hc' => Q .non hc', rt := Q, xp := fun x _ hc' => E x hc' } (startC N__law_code ds) hc := by
  obtain ⟨w, p, l, h, n, d, rfl, s, p6, l8, h8, hw, n0, d0, nb, db, k⟩ := h
  have f := s.f
  have p1 := f.p0
  have lh := f.lh
  obtain ⟨vl, vb⟩ := val_len s
  obtain ⟨cb, cn, _⟩ := cnt_sm s
  obtain ⟨c, fl⟩ := fl_exists (B := unB d l) f (show 0 ≤ unA n l from Int.mul_nonneg n0 (Int.le_of_lt (P2_pos _)))
  have k := k c fl
  have c0 := fl.c0
  have c1 := fl.c1
  have vs : ∀ c, 0 ≤ c → c ≤ cntI p l h → (vV p l c).natAbs < 2 ^ 23 := fun c a b => by
    have := vV_le (p := p) p1 p6 lh l8 h8 a b
    have := vV_nn (p := p) (l := l) a
    omega
  have mo : ∀ x : Int, x.natAbs < 2 ^ 24 → Mn.MulOk x d := fun x h0 => mulOk 24 20000 h0 db (by decide)
  unfold c__law_code N__law_code
  refine seq_step fun M hM => ?_
  walk_at "n"
  rw [vl, show cntI p l h + 1 - 1 = cntI p l h by omega]
  refine ⟨mulOk_r (by decide), by decide, hM _ _ ?_⟩
  refine seq_step fun M hM => ?_
  walk_at "n"
  refine oth_some (val_at s (by omega) (Int.le_refl _)) ?_
  walk_at "n"
  refine ⟨mo _ (Nat.lt_trans (vs _ (by omega) (Int.le_refl _)) (by decide)), ?_⟩
  refine ite2 (fun t => ?_) (fun t => ?_)
  · have t := of_decide_eq_true t
    obtain ⟨ec, es⟩ := val_top f l8 d0 fl t
    rw [es] at k
    have ec : cntI p l h = c + 1 := by omega
    rw [ec] 
    walk_at "n"
    refine ⟨by decide, ?_⟩
    have nz : (3 : Int) ≠ 0 := by decide
    rcases hw with rfl | rfl | rfl | rfl | rfl
    · rw [readI_e nz, if_pos (.inl rfl)] at k
      exact dg_one rfl rfl k
    · rw [readI_a nz, if_pos (by decide)] at k
      exact dg_one rfl rfl k
    · rw [readI_z nz] at k
      refine dg_one rfl rfl ?_
      rw [show c + 1 - 1 = c by omega]
      exact k
    · rw [readI_u nz] at k
      exact dg_one rfl rfl k
    · rw [readI_o nz] at k
      refine dg_one rfl rfl ?_
      rw [show c + 1 - (c + 1 + 1) % 2 = c + 1 - c % 2 by omega]
      exact k
  have t : ¬ vV p l (cntI p l h) * d ≤ n * 256 := fun z => t (decide_eq_true z)
  refine hM _ _ ?_
  refine seq_step fun M hM => ?_
  refine asg_step fun L hL => ?_
  walk_at "n"
  refine lc_inv fun R hR => ?_
  walk_at "n"
  refine hR _ _ (fun i acc h' => h' = hc ∧ acc = (valL p l h).take (min i (c.toNat + 1))) (by rw [sizeLine_eq]; omega) ⟨rfl, by rw [Nat.zero_min]; rfl⟩ (fun j x acc h' Nx e I nx => ?_) (fun acc h' I => ?_)
  · obtain ⟨rfl, rfl⟩ := I
    have jl : j < cntN p l h + 1 := by
      have := (List.getElem?_eq_some_iff.mp e).1
      omega
    have e2 := val_get jl
    rw [e] at e2
    injection e2 with e2
    subst e2
    walk_at "n"
    refine ⟨mo _ (Nat.lt_trans (vs _ (by omega) (by omega)) (by decide)), ?_⟩
    have vc := val_count l8 d0 fl t j (by omega)
    refine ite2 (fun g => ?_) (fun g => ?_)
    · have g := vc.mp (of_decide_eq_true g)
      walk_at "n"
      refine nx _ _ ⟨rfl, ?_⟩
      rw [show min j (c.toNat + 1) = j by omega, show min (j + 1) (c.toNat + 1) = j + 1 by omega, take_snoc e]
    · have g : ¬ (j : Int) ≤ c := fun z => g (decide_eq_true (vc.mpr z))
      walk_at "n"
      refine nx _ _ ⟨rfl, ?_⟩
      rw [show min j (c.toNat + 1) = c.toNat + 1 by omega, show min (j + 1) (c.toNat + 1) = c.toNat + 1 by omega]
  · obtain ⟨rfl, rfl⟩ := I
    have ml : ((valL p l h).take (min (valL p l h).length (c.toNat + 1))).length = c.toNat + 1 := by
      rw [List.length_take]
      omega
    walk_at "n"
    rw [ml, show ((c.toNat + 1 : Nat) : Int) - 1 = c by omega]
    refine hL _ _ (hM _ _ ?_)
    refine seq_step fun M hM => ?_
    walk_at "n"
    refine oth_some (val_at s c0 (by omega)) ?_
    walk_at "n"
    refine ⟨mo _ (Nat.lt_trans (vs _ c0 (by omega)) (by decide)), ?_⟩
    have vq := (val_cmp (p := p) (n := n) (d := d) l8 c0).2
    refine ite2 (fun g => ?_) (fun g => ?_)
    · have g := vq.mp (of_decide_eq_true g)
      have e : sideU p c (unA n l) (unB d l) = 0 := by unfold sideU; rw [if_pos g]
      rw [e, readI_0] at k
      walk_at "n"
      exact k
    · have g : unA n l ≠ uV p c * unB d l := fun z => g (decide_eq_true (vq.mpr z))
      refine hM _ _ ?_
      walk_at "n"
      refine ⟨mulOk_l (by decide), oth_some (val_at s c0 (by omega)) ?_⟩
      walk_at "n"
      refine oth_some (val_at s (show 0 ≤ c + 1 by omega) (by omega)) ?_
      walk_at "n"
      have b := add_pow (vs c c0 (by omega)) (vs (c + 1) (by omega) (by omega))
      refine ⟨mo _ b, ?_⟩
      exact ⟨w, c, _, _, rfl, hw, c0, val_side l8 c0 g _ _ rfl rfl, k⟩
theorem at__law_code (T : Txt K mg) (B : BaseT K mg base) (KX : K.In base) (PS : Sup P mf) (A__law_between : FnAt P w K mg base 1 "_law_between" ["_law_way", "_law_code_here", "_law_side"] sp__law_between) : FnAt P w K mg base 2 "_law_code" ["_law_values", "_law_way", "_law_num", "_law_den"] sp__law_code :=
  fn_at (c := c__law_code) T.d__law_code sc__law_code (fun f cdv A outer s H E hr => by
    have nd := sc__law_code.nd
    exact (css_cons (cs_asg (ce_tup (ca_cons (ce_op op_subD (CE.bo (ce_bf bf_len T.n_len (cba_cons (CE.bo (ce_v 0)) cba_nil))) (CE.bo ce_i)) (ca_cons (ce_op op_mulD (CE.bo (ce_v 2)) (CE.bo ce_i)) ca_nil))) (cg_u rfl (cgs_cons (cg_n 4 nd) (cgs_cons (cg_n 5 nd) cgs_nil))))
    (css_cons (cs_if (ct_cmp op_geD (CE.bo (ce_v 5)) (CE.bo (ce_op op_mulD (CE.bo (ce_ix (CE.bo (ce_v 0)) (ce_v 4))) (CE.bo (ce_v 3)))))
    (css_one (cs_ret (CE.bo (ce_dget2 hr.g.units1 (cps_cons (ce_op op_subD (CE.bo (ce_v 4)) (CE.bo ce_i)) (cps_cons (ce_op op_subD (CE.bo (ce_v 4)) (CE.bo (ce_op op_modD (CE.bo (ce_bt bt_int T.n_int (cba_cons (CE.bo (ce_op op_addD (CE.bo (ce_v 4)) (CE.bo ce_i))) cba_nil))) (CE.bo ce_i)))) cps_nil)) (ce_v 1) (ce_v 4)))))
    css_nil)
    (css_cons (cs_set nd (ce_op op_subD (CE.bo (ce_bf bf_len T.n_len (cba_cons (CE.bo (ce_lc rfl nd (own := [("_law_value", 7)]) (ci_e (ce_v 0)) (blkOk_by (N := ["_law_values", "_law_way", "_law_num", "_law_den", "_law_top", "_law_x", "_law_code_here", "_law_value"]) (sc := defScope s__law_code) (own := [("_law_value", 7)]) (by decide +kernel)) (fun _ _ _ _ _ => (cgk_n 7 nd)) (fun _ _ _ _ _ => (cts_one (ct_cmp op_leD (CE.bo (ce_op op_mulD (CE.bo (ce_v 7)) (CE.bo (ce_v 3)))) (CE.bo (ce_v 5))))) (fun _ _ _ _ _ => (ce_v 7)))) cba_nil))) (CE.bo ce_i)))
    (css_cons (cs_if (ct_cmp (op_eqDD hr.g.units) (CE.bo (ce_op op_mulD (CE.bo (ce_ix (CE.bo (ce_v 0)) (ce_v 6))) (CE.bo (ce_v 3)))) (CE.bo (ce_v 5)))
    (css_one (cs_ret (CE.bo (ce_v 6))))
    css_nil)
    (css_one (cs_ret (CE.bo (ce_f A__law_between hr (ca_cons (ce_v 1) (ca_cons (ce_v 6) (ca_cons (ce_op op_subD (CE.bo (ce_op op_mulD (CE.bo ce_i) (CE.bo (ce_v 5)))) (CE.bo (ce_op op_mulD (CE.bo (ce_op op_addD (CE.bo (ce_ix (CE.bo (ce_v 0)) (ce_v 6))) (CE.bo (ce_ix (CE.bo (ce_v 0)) (ce_op op_addD (CE.bo (ce_v 6)) (CE.bo ce_i)))))) (CE.bo (ce_v 3))))) ca_nil))))))))))))
    (fun ds hc Q E h => len__law_code h) (fun ds hc Q E h => pure__law_code h) (fun _ _ _ _ _ _ us hl => match us, hl with | [_, _, _, _], _ => rfl)
abbrev N_scan_word : List Str := ["text", "at", "word", "index", "sign"]
def c_scan_word : CSx :=
  (cSeq (cFor (cEnumS (cV 2)) (gUn 2 (gCons' (gN 3) (gCons' (gN 4) gNil')))
    (cIfS (cT (cOp neD (cSl (cV 0) (cSoP (cOp addD (cV 1) (cV 3))) (cSoP (cOp addD (cOp addD (cV 1) (cV 3)) (cC (.int 1))))) (cV 4)))
    (cRaise "BadText" "place" (cOp addD (cV 1) (cV 3)))
    cNext))
    (cIfS (cT (cOp gtD (cFn lenD (cCons (cV 0) cNil)) (cOp addD (cV 1) (cFn lenD (cCons (cV 2) cNil)))))
    (cRaise "BadText" "place" (cOp addD (cV 1) (cFn lenD (cCons (cV 2) cNil))))
    cNext))
def sp_scan_word : Spc := fun ds hc Q _ => ∃ pre wd, ds = [.str (txt (pre ++ wd)), .int (pre.length : Int), .str (txt wd)] ∧ (pre ++ wd).length ≤ 100000 ∧ Q .non hc
theorem len_scan_word {ds : List D} {hc : CH} {Q E} (h : sp_scan_word ds hc Q E) : ds.length = 3 := by
  obtain ⟨pre, wd, rfl, _⟩ := h
  rfl
theorem pure_scan_word {ds : List D} {hc : CH} {Q : D → CH → Prop} {E} (h : sp_scan_word ds hc Q E) : c_scan_word { nx := fun _ hc' => Q .non hc', rt := Q, xp := fun x _ hc' => E x hc' } (startC N_scan_word ds) hc := by
  obtain ⟨pre, wd, rfl, hl, k⟩ := h
  unfold c_scan_word N_scan_word
  have sz := sizeLine_eq
  refine seq_step fun M hM => ?_
  refine for_step fun R hR => ?_
  walk_at "n"
  refine hR _ _ (fun i sc h => h = hc ∧ ∃ o3 o4, sc = [.val (.str (txt (pre ++ wd))), .val (.int (pre.length : Int)), .val (.str (txt wd)), o3, o4]) ⟨rfl, _, _, rfl⟩ (fun j d sc h Nx e I nx => ?_) (fun sc h I => ?_)
  · obtain ⟨rfl, o3, o4, rfl⟩ := I
    obtain ⟨y, ey, rfl⟩ := enu_at e
    obtain ⟨c, ec, rfl⟩ := signs_at ey
    have ec' : wd[j]? = some c := by
      rw [← Array.getElem?_toList] at ec
      exact ec
    have ea : (pre ++ wd)[pre.length + j]? = some c := by
      rw [List.getElem?_append_right (by omega), show pre.length + j - pre.length = j by omega]
      exact ec'
    walk_at "n"
    refine sl_one ea (by omega) (by omega) hl ?_
    walk_at "n"
    rw [decide_eq_true (show txt [c] = (⟨#[c]⟩ : Str) from rfl)]
    walk_at "n"
    exact nx _ _ ⟨rfl, _, _, rfl⟩
  · obtain ⟨rfl, o3, o4, rfl⟩ := I
    refine hM _ _ ?_
    have L := hl
    rw [List.length_append] at L
    walk_at "n"
    rw [txt_len, txt_len, List.length_append]
    refine ⟨by omega, by omega, ?_⟩
    rw [decide_eq_false (by omega)]
    walk_at "n"
    exact k
theorem at_scan_word (T : Txt K mg) (B : BaseT K mg base) (KX : K.In base) (PS : Sup P mf)  : FnAt P w K mg base 2 "scan_word" ["text", "at", "word"] sp_scan_word :=
  fn_at (c := c_scan_word) T.d_scan_word sc_scan_word (fun f cdv A outer s H E hr => by
    have nd := sc_scan_word.nd
    exact (css_cons (cs_for hr.p rfl (ci_enumS T.n_enumerate (ce_v 2)) (cg_u rfl (cgs_cons (cg_n 3 nd) (cgs_cons (cg_n 4 nd) cgs_nil)))
    (css_one (cs_if (ct_cmp (op_neDD hr.g.units) (CE.bo (ce_sl (CE.bo (ce_v 0)) (co_some (ce_op op_addD (CE.bo (ce_v 1)) (CE.bo (ce_v 3)))) (co_some (ce_op op_addD (CE.bo (ce_op op_addD (CE.bo (ce_v 1)) (CE.bo (ce_v 3)))) (CE.bo ce_i))))) (CE.bo (ce_v 4)))
    (css_one (cs_raiseC hr T.x_BadText PS T.n_super (ce_op op_addD (CE.bo (ce_v 1)) (CE.bo (ce_v 3)))))
    css_nil)))
    (css_one (cs_if (ct_cmp op_gtD (CE.bo (ce_bf bf_len T.n_len (cba_cons (CE.bo (ce_v 0)) cba_nil))) (CE.bo (ce_op op_addD (CE.bo (ce_v 1)) (CE.bo (ce_bf bf_len T.n_len (cba_cons (CE.bo (ce_v 2)) cba_nil))))))
    (css_one (cs_raiseC hr T.x_BadText PS T.n_super (ce_op op_addD (CE.bo (ce_v 1)) (CE.bo (ce_bf bf_len T.n_len (cba_cons (CE.bo (ce_v 2)) cba_nil))))))
    css_nil))))
    (fun ds hc Q E h => len_scan_word h) (fun ds hc Q E h => pure_scan_word h) (fun _ _ _ _ _ _ us hl => match us, hl with | [_, _, _], _ => rfl)
abbrev N_scan_digits : List Str := ["text", "at", "signs", "most", "digits", "front"]
def c_scan_digits : CSx :=
  (cSeq (cAsg (cTup (cCons (cC (.str "")) (cCons (cC .non) cNil))) (gUn 2 (gCons' (gN 4) (gCons' (gN 5) gNil'))))
    (cSeq (cWhile (cT (cOp ltD (cV 1) (cFn lenD (cCons (cV 0) cNil))))
    (cSeq (cIfS (cAnd (cT (cOp eqD (cOp ixD (cV 0) (cV 1)) (cC (.str ".")))) (cT (cOp isND (cV 5) (cC .non))))
    (cAsg (cFn lenD (cCons (cV 4) cNil)) (gN 5))
    (cIfS (cAnd (cT (cOp inXD (cOp ixD (cV 0) (cV 1)) (cV 2))) (cT (cOp ltD (cFn lenD (cCons (cV 4) cNil)) (cV 3))))
    (cAsg (cOp addD (cV 4) (cOp ixD (cV 0) (cV 1))) (gN 4))
    cBrk))
    (cAsg (cOp addD (cV 1) (cC (.int 1))) (gN 1))))
    (cSeq (cIfS (cT (cOp eqD (cV 4) (cC (.str ""))))
    (cRaise "BadText" "place" (cV 1))
    cNext)
    (cRet (cTup (cCons (cV 4) (cCons (cIf (cT (cOp isND (cV 5) (cC .non))) (cC (.int 0)) (cOp subD (cFn lenD (cCons (cV 4) cNil)) (cV 5))) (cCons (cV 1) cNil))))))))
def sp_scan_digits : Spc := fun ds hc Q E => (∃ pre sh post sg most dg b, ds = [.str (txt (pre ++ (sh ++ post))), .int (pre.length : Int), .str (txt sg), .int ((most : Nat) : Int)] ∧ ShT sg most sh dg b ∧ 46 ∉ sg ∧ (∀ c t, post = c :: t → c ∉ sg ∧ c ≠ 46) ∧ (pre ++ (sh ++ post)).length ≤ 100000 ∧ Q (.tup [.str (txt dg), .int (b : Int), .int ((pre.length : Int) + sh.length)]) hc) ∨ ∃ pre post sg most, ds = [.str (txt (pre ++ post)), .int (pre.length : Int), .str (txt sg), .int ((most : Nat) : Int)] ∧ (∀ c t, post = c :: t → c ∉ sg ∧ c ≠ 46) ∧ (pre ++ post).length ≤ 100000 ∧ E ⟨"BadText", [("place", .int (pre.length : Int))]⟩ hc
theorem len_scan_digits {ds : List D} {hc : CH} {Q E} (h : sp_scan_digits ds hc Q E) : ds.length = 4 := by
  rcases h with ⟨pre, sh, post, sg, most, dg, b, rfl, _⟩ | ⟨pre, post, sg, most, rfl, _⟩ <;> rfl
theorem pure_scan_digitsE {ds : List D} {hc : CH} {Q : D → CH → Prop} {E : Exn → CH → Prop} (h : ∃ pre post sg most, ds = [.str (txt (pre ++ post)), .int (pre.length : Int), .str (txt sg), .int ((most : Nat) : Int)] ∧ (∀ c t, post = c :: t → c ∉ sg ∧ c ≠ 46) ∧ (pre ++ post).length ≤ 100000 ∧ E ⟨"BadText", [("place", .int (pre.length : Int))]⟩ hc) : c_scan_digits { nx := fun _ hc' => Q .non hc', rt := Q, xp := fun x _ hc' => E x hc' } (startC N_scan_digits ds) hc := by
  obtain ⟨pre, post, sg, most, rfl, hp, hl, k⟩ := h
  unfold c_scan_digits N_scan_digits
  refine seq_step fun M hM => ?_
  walk_at "n"
  refine ⟨by decide, hM _ _ ?_⟩
  refine seq_step fun M hM => ?_
  have L := hl
  rw [List.length_append] at L
  have sz := sizeLine_eq
  have out : M [.val (.str (txt (pre ++ post))), .val (.int (pre.length : Int)), .val (.str (txt sg)), .val (.int ((most : Nat) : Int)), .val (.str (Str.ofString "")), .val .non] hc := by
    refine hM _ _ ?_
    refine seq_step fun M hM => ?_
    walk_at "n"
    exact k
  refine wh_inv (fun m sc h => h = hc ∧ sc = [.val (.str (txt (pre ++ post))), .val (.int (pre.length : Int)), .val (.str (txt sg)), .val (.int ((most : Nat) : Int)), .val (.str (Str.ofString "")), .val .non]) (fun m sc h Nx I nx => ?_) (m := 0) ⟨rfl, rfl⟩
  obtain ⟨rfl, rfl⟩ := I
  walk_at "n"
  refine ⟨by rw [txt_len]; omega, ?_⟩
  rw [txt_len]
  cases post with
  | nil =>
    rw [decide_eq_false (by simp only [List.length_append, List.length_nil]; omega)]
    walk_at "n"
    rw [List.append_nil] at out
    exact out
  | cons c t =>
    obtain ⟨p1, p2⟩ := hp c t rfl
    rw [decide_eq_true (by simp only [List.length_append, List.length_cons]; omega)]
    walk_at "n"
    have ea : (pre ++ c :: t)[pre.length]? = some c := at_app
    refine seq_step fun M2 hM2 => ?_
    walk_at "n"
    refine ix_txt ea (by omega) hl ?_
    walk_at "n"
    rw [decide_eq_false (fun z => p2 ((chr_eq txt_dot).mp z))]
    walk_at "n"
    refine ix_txt ea (by omega) hl ?_
    walk_at "n"
    refine ⟨c, rfl, ?_⟩
    rw [decide_eq_false (show ¬ c ∈ (txt sg).cps.toList from p1)]
    walk_at "n"
    exact out
theorem pure_scan_digits {ds : List D} {hc : CH} {Q : D → CH → Prop} {E} (h : sp_scan_digits ds hc Q E) : c_scan_digits { nx := fun _ hc' => Q .non hc', rt := Q, xp := fun x _ hc' => E x hc' } (startC N_scan_digits ds) hc := by
  rcases h with ⟨pre, sh, post, sg, most, dg, b, rfl, s, hs, hp, hl, k⟩ | h
  case inr => exact pure_scan_digitsE h
  unfold c_scan_digits N_scan_digits
  obtain ⟨s1, s2, s3⟩ := s.no hs
  have sb := s.behind hs
  refine seq_step fun M hM => ?_
  walk_at "n"
  refine ⟨by decide, hM _ _ ?_⟩
  refine seq_step fun M hM => ?_
  have L := hl
  rw [List.length_append, List.length_append] at L
  have sz := sizeLine_eq
  have dl : dg.length ≤ sh.length := s1 ▸ List.length_filter_le ..
  have out : M [.val (.str (txt (pre ++ (sh ++ post)))), .val (.int ((pre.length : Int) + sh.length)), .val (.str (txt sg)), .val (.int ((most : Nat) : Int)), .val (.str (txt (noDot sh))), .val (frontD sh)] hc := by
    refine hM _ _ ?_
    refine seq_step fun M hM => ?_
    rw [s1]
    walk_at "n"
    rw [decide_eq_false (show ¬ txt dg = Str.ofString "" from fun z => s.ne (txt_inj.mp (z.trans (show Str.ofString "" = txt [] by decide +kernel))))]
    walk_at "n"
    refine hM _ _ ?_
    rcases sb with ⟨e1, e2⟩ | ⟨f, e1, e2⟩
    · rw [e1]
      subst e2
      walk_at "n"
      exact ⟨by decide, k⟩
    · rw [e1]
      walk_at "n"
      rw [txt_len, e2]
      exact ⟨by omega, by decide, k⟩
  refine wh_inv (fun m sc h => h = hc ∧ ∃ done todo, sh = done ++ todo ∧ m = todo.length ∧ sc = [.val (.str (txt (pre ++ (sh ++ post)))), .val (.int ((pre.length : Int) + done.length)), .val (.str (txt sg)), .val (.int ((most : Nat) : Int)), .val (.str (txt (noDot done))), .val (frontD done)]) (fun m sc h Nx I nx => ?_) (m := sh.length) ⟨rfl, [], sh, rfl, rfl, ?_⟩
  · obtain ⟨rfl, done, todo, es, em, rfl⟩ := I
    have L2 : sh.length = done.length + todo.length := by rw [es, List.length_append]
    walk_at "n"
    refine ⟨by rw [txt_len]; omega, ?_⟩
    rw [txt_len]
    cases todo with
    | nil =>
      rw [List.append_nil] at es
      subst es
      cases post with
      | nil =>
        rw [decide_eq_false (by simp only [List.length_append, List.length_nil]; omega)]
        walk_at "n"
        rw [List.append_nil] at out
        exact out
      | cons c t =>
        obtain ⟨p1, p2⟩ := hp c t rfl
        rw [decide_eq_true (by simp only [List.length_append, List.length_cons]; omega)]
        walk_at "n"
        have ea : (pre ++ (sh ++ c :: t))[pre.length + sh.length]? = some c := by
          rw [← List.append_assoc, ← List.length_append]
          exact at_app
        refine seq_step fun M2 hM2 => ?_
        walk_at "n"
        refine ix_txt ea (by omega) hl ?_
        walk_at "n"
        rw [decide_eq_false (fun z => p2 ((chr_eq txt_dot).mp z))]
        walk_at "n"
        refine ix_txt ea (by omega) hl ?_
        walk_at "n"
        refine ⟨c, rfl, ?_⟩
        rw [decide_eq_false (show ¬ c ∈ (txt sg).cps.toList from p1)]
        walk_at "n"
        exact out
    | cons c t =>
      have L3 : sh.length = done.length + t.length + 1 := L2
      rw [decide_eq_true (by simp only [List.length_append]; omega)]
      have ea : (pre ++ (sh ++ post))[pre.length + done.length]? = some c := by
        rw [es, List.append_assoc, ← List.append_assoc, ← List.length_append]
        exact at_app
      have cm : c ∈ sh := es ▸ List.mem_append_right _ (List.mem_cons_self ..)
      walk_at "n"
      have nl : (noDot done).length ≤ done.length := List.length_filter_le ..
      have nx2 : ∀ sc, sc = [Sl.val (.str (txt (pre ++ (sh ++ post)))), .val (.int ((pre.length : Int) + done.length + 1)), .val (.str (txt sg)), .val (.int ((most : Nat) : Int)), .val (.str (txt (noDot (done ++ [c])))), .val (frontD (done ++ [c]))] → Nx sc h := fun sc e => by
        subst e
        refine nx t.length _ _ (by rw [em]; exact Nat.lt_succ_self _) ⟨rfl, done ++ [c], t, by rw [es, List.append_assoc]; rfl, rfl, ?_⟩
        rw [List.length_append, List.length_singleton]
        show [Sl.val _, Sl.val (D.int _), _, _, _, _] = [Sl.val _, Sl.val (D.int _), _, _, _, _]
        rw [show (pre.length : Int) + done.length + 1 = (pre.length : Int) + ((done.length + 1 : Nat) : Int) by omega]
      refine seq_step fun M2 hM2 => ?_
      walk_at "n"
      refine ix_txt ea (by omega) hl ?_
      walk_at "n"
      by_cases z : c = 46
      · subst z
        have nd : 46 ∉ done := fun m => by
          rw [es, List.count_append, List.count_cons_self] at s2
          have := List.count_pos_iff.mpr m
          omega
        rw [decide_eq_true ((chr_eq txt_dot).mpr rfl), frontD_no nd]
        walk_at "n"
        refine ⟨by rw [txt_len]; omega, hM2 _ _ ?_⟩
        walk_at "n"
        refine nx2 _ ?_
        rw [frontD_dot nd, txt_len, noDot_app, show noDot [46] = [] from rfl, List.append_nil]
      · rw [decide_eq_false (fun w => z ((chr_eq txt_dot).mp w))]
        walk_at "n"
        refine ix_txt ea (by omega) hl ?_
        walk_at "n"
        refine ⟨c, rfl, ?_⟩
        rw [decide_eq_true (show c ∈ (txt sg).cps.toList from s3 c cm z)]
        walk_at "n"
        have ln : (noDot done).length < most := by
          have : noDot sh = noDot done ++ ([c] ++ noDot t) := by
            rw [es, show c :: t = [c] ++ t from rfl, noDot_app, noDot_app, noDot_one z]
          rw [s1] at this
          have l2 := s.len
          rw [this, List.length_append, List.length_append, List.length_singleton] at l2
          omega
        rw [txt_len, decide_eq_true (by omega)]
        walk_at "n"
        refine ⟨by omega, ix_txt ea (by omega) hl ?_⟩
        walk_at "n"
        rw [txt_len, txt_len]
        refine ⟨by show _ + 1 ≤ _; omega, hM2 _ _ ?_⟩
        walk_at "n"
        refine nx2 _ ?_
        rw [frontD_step z, txt_app, noDot_app, noDot_one z]
  · show _ = [Sl.val _, Sl.val (D.int ((pre.length : Int) + (0 : Nat))), _, _, Sl.val (D.str (txt [])), Sl.val .non]
    rw [show (pre.length : Int) + (0 : Nat) = pre.length by omega]
    rfl
theorem at_scan_digits (T : Txt K mg) (B : BaseT K mg base) (KX : K.In base) (PS : Sup P mf)  : FnAt P w K mg base 2 "scan_digits" ["text", "at", "signs", "most"] sp_scan_digits :=
  fn_at (c := c_scan_digits) T.d_scan_digits sc_scan_digits (fun f cdv A outer s H E hr => by
    have nd := sc_scan_digits.nd
    exact (css_cons (cs_asg (ce_tup (ca_cons ce_s (ca_cons ce_n ca_nil))) (cg_u rfl (cgs_cons (cg_n 4 nd) (cgs_cons (cg_n 5 nd) cgs_nil))))
    (css_cons (cs_while hr.p (ct_cmp op_ltD (CE.bo (ce_v 1)) (CE.bo (ce_bf bf_len T.n_len (cba_cons (CE.bo (ce_v 0)) cba_nil))))
    (css_cons (cs_if (CW.t (cw_and (ct_cmp (op_eqDD hr.g.units) (CE.bo (ce_ix (CE.bo (ce_v 0)) (ce_v 1))) (CE.bo ce_s)) (cw_and1 (ct_cmp op_isND (CE.bo (ce_v 5)) (CE.bo ce_n)))))
    (css_one (cs_set nd (ce_bf bf_len T.n_len (cba_cons (CE.bo (ce_v 4)) cba_nil))))
    (css_one (cs_if (CW.t (cw_and (ct_cmp (op_inXD hr.g) (CE.bo (ce_ix (CE.bo (ce_v 0)) (ce_v 1))) (CE.bo (ce_v 2))) (cw_and1 (ct_cmp op_ltD (CE.bo (ce_bf bf_len T.n_len (cba_cons (CE.bo (ce_v 4)) cba_nil))) (CE.bo (ce_v 3))))))
    (css_one (cs_set nd (ce_op op_addD (CE.bo (ce_v 4)) (CE.bo (ce_ix (CE.bo (ce_v 0)) (ce_v 1))))))
    (css_one cs_break))))
    (css_one (cs_set nd (ce_op op_addD (CE.bo (ce_v 1)) (CE.bo ce_i))))))
    (css_cons (cs_if (ct_cmp (op_eqDD hr.g.units) (CE.bo (ce_v 4)) (CE.bo ce_s))
    (css_one (cs_raiseC hr T.x_BadText PS T.n_super (ce_v 1)))
    css_nil)
    (css_one (cs_ret (CE.bo (ce_tup (ca_cons (ce_v 4) (ca_cons (ce_if (ct_cmp op_isND (CE.bo (ce_v 5)) (CE.bo ce_n)) ce_i (ce_op op_subD (CE.bo (ce_bf bf_len T.n_len (cba_cons (CE.bo (ce_v 4)) cba_nil))) (CE.bo (ce_v 5)))) (ca_cons (ce_v 1) ca_nil)))))))))))
    (fun ds hc Q E h => len_scan_digits h) (fun ds hc Q E h => pure_scan_digits h) (fun _ _ _ _ _ _ us hl => match us, hl with | [_, _, _, _], _ => rfl)
abbrev N_scan_power : List Str := ["text", "at", "most", "is_minus", "found", "begin"]
def c_scan_power : CSx :=
  (cSeq (cAsg (cOp eqD (cSl (cV 0) (cSoP (cV 1)) (cSoP (cOp addD (cV 1) (cC (.int 1))))) (cC (.str "-"))) (gN 3))
    (cSeq (cAsg (cOp addD (cV 1) (cFn intTD (cCons (cOp inD (cSl (cV 0) (cSoP (cV 1)) (cSoP (cOp addD (cV 1) (cC (.int 1))))) (cTup (cCons (cC (.str "-")) (cCons (cC (.str "+")) cNil)))) cNil))) (gN 1))
    (cSeq (cPar 4 5 (cCons (cC (.int 0)) (cCons (cV 1) cNil)))
    (cSeq (cWhile (cAnd (cT (cOp ltD (cV 1) (cFn lenD (cCons (cV 0) cNil)))) (cAnd (cT (cOp inXD (cOp ixD (cV 0) (cV 1)) (cC (.str "0123456789")))) (cT (cOp leD (cOp addD (cOp mulD (cV 4) (cC (.int 10))) (cFn intTD (cCons (cOp ixD (cV 0) (cV 1)) cNil))) (cV 2)))))
    (cSeq (cAsg (cOp addD (cOp mulD (cV 4) (cC (.int 10))) (cFn intTD (cCons (cOp ixD (cV 0) (cV 1)) cNil))) (gN 4))
    (cAsg (cOp addD (cV 1) (cC (.int 1))) (gN 1))))
    (cSeq (cIfS (cOr (cT (cOp eqD (cV 1) (cV 5))) (cT (cOp ltD (cV 1) (cFn lenD (cCons (cV 0) cNil)))))
    (cRaise "BadText" "place" (cV 1))
    cNext)
    (cRet (cIf (cT (cV 3)) (cOp subD (cC (.int 0)) (cV 4)) (cV 4))))))))
def sp_scan_power : Spc := fun ds hc Q E => (∃ pre pw most k, ds = [.str (txt (pre ++ pw)), .int (pre.length : Int), .int ((most : Nat) : Int)] ∧ PwT most pw k ∧ (pre ++ pw).length ≤ 100000 ∧ Q (.int k) hc) ∨ ∃ pre dg post most, ds = [.str (txt (pre ++ (dg ++ post))), .int (pre.length : Int), .int ((most : Nat) : Int)] ∧ PySem.NumText.AllDigits dg ∧ PySem.NumText.digitsVal dg ≤ most ∧ (post = [] → dg = []) ∧ (∀ c t, post = c :: t → 48 ≤ c ∧ c ≤ 57 → ¬ PySem.NumText.digitsVal dg * 10 + (c - 48) ≤ most) ∧ (∀ c t, post = c :: t → 48 ≤ c ∧ c ≤ 57 ∨ ¬ c ∈ decL) ∧ (dg ++ post).take 1 ≠ [45] ∧ (dg ++ post).take 1 ≠ [43] ∧ (∀ c ∈ (dg ++ post).take 1, c < 128) ∧ (pre ++ (dg ++ post)).length ≤ 100000 ∧ E ⟨"BadText", [("place", .int ((pre.length : Int) + dg.length))]⟩ hc
theorem len_scan_power {ds : List D} {hc : CH} {Q E} (h : sp_scan_power ds hc Q E) : ds.length = 3 := by
  rcases h with ⟨pre, pw, most, k, rfl, _⟩ | ⟨pre, dg, post, most, rfl, _⟩ <;> rfl
theorem pure_scan_powerE {ds : List D} {hc : CH} {Q : D → CH → Prop} {E : Exn → CH → Prop} (h : ∃ pre dg post most, ds = [.str (txt (pre ++ (dg ++ post))), .int (pre.length : Int), .int ((most : Nat) : Int)] ∧ PySem.NumText.AllDigits dg ∧ PySem.NumText.digitsVal dg ≤ most ∧ (post = [] → dg = []) ∧ (∀ c t, post = c :: t → 48 ≤ c ∧ c ≤ 57 → ¬ PySem.NumText.digitsVal dg * 10 + (c - 48) ≤ most) ∧ (∀ c t, post = c :: t → 48 ≤ c ∧ c ≤ 57 ∨ ¬ c ∈ decL) ∧ (dg ++ post).take 1 ≠ [45] ∧ (dg ++ post).take 1 ≠ [43] ∧ (∀ c ∈ (dg ++ post).take 1, c < 128) ∧ (pre ++ (dg ++ post)).length ≤ 100000 ∧ E ⟨"BadText", [("place", .int ((pre.length : Int) + dg.length))]⟩ hc) : c_scan_power { nx := fun _ hc' => Q .non hc', rt := Q, xp := fun x _ hc' => E x hc' } (startC N_scan_power ds) hc := by
  obtain ⟨pre, d, post, most, rfl, hd, hv, hn, hp, hq, t45, t43, le, hl, q⟩ := h
  unfold c_scan_power N_scan_power
  have sz := sizeLine_eq
  have L := hl
  rw [List.length_append, List.length_append] at L
  refine seq_step fun M hM => ?_
  walk_at "n"
  refine sl_txt (k := 1) rfl rfl hl ?_
  walk_at "n"
  rw [txt_minus, decide_eq_false (show ¬ txt ((d ++ post).take 1) = txt [45] from fun z => t45 (txt_inj.mp z))]
  refine hM _ _ ?_
  refine seq_step fun M hM => ?_
  walk_at "n"
  refine sl_txt (k := 1) rfl rfl hl ?_
  walk_at "n"
  refine ⟨by decide, in_pm le ?_⟩
  rw [decide_eq_false (show ¬ ((d ++ post).take 1 = [45] ∨ (d ++ post).take 1 = [43]) from fun z => z.elim t45 t43)]
  walk_at "n"
  refine hM _ _ ?_
  refine seq_step fun M hM => ?_
  walk_at "n"
  refine hM _ _ ?_
  refine seq_step fun M hM => ?_
  have out : M [.val (.str (txt (pre ++ (d ++ post)))), .val (.int ((pre.length : Int) + d.length)), .val (.int ((most : Nat) : Int)), .val (.bl false), .val (.int ((PySem.NumText.digitsVal d : Nat) : Int)), .val (.int (pre.length : Int))] hc := by
    refine hM _ _ ?_
    refine seq_step fun M hM => ?_
    walk_at "n"
    by_cases z : d = []
    · subst z
      rw [decide_eq_true (show (pre.length : Int) + ([] : List Nat).length = pre.length by rw [List.length_nil]; omega)]
      walk_at "n"
      exact q
    · have d0 : 0 < d.length := List.length_pos_iff.mpr z
      have p0 : 0 < post.length := List.length_pos_iff.mpr fun e => z (hn e)
      rw [decide_eq_false (show ¬ (pre.length : Int) + d.length = pre.length by omega)]
      walk_at "n"
      rw [txt_len, List.length_append, List.length_append]
      refine ⟨by omega, ?_⟩
      rw [decide_eq_true (show (pre.length : Int) + d.length < ((pre.length + (d.length + post.length) : Nat) : Int) by omega)]
      walk_at "n"
      exact q
  refine wh_inv (fun m sc h => h = hc ∧ ∃ done todo, d = done ++ todo ∧ m = todo.length ∧ sc = [.val (.str (txt (pre ++ (d ++ post)))), .val (.int ((pre.length : Int) + done.length)), .val (.int ((most : Nat) : Int)), .val (.bl false), .val (.int ((PySem.NumText.digitsVal done : Nat) : Int)), .val (.int (pre.length : Int))]) (fun m sc h Nx I nx => ?_) (m := d.length) ⟨rfl, [], d, rfl, rfl, ?_⟩
  · obtain ⟨rfl, done, todo, es, em, rfl⟩ := I
    have L2 : d.length = done.length + todo.length := by rw [es, List.length_append]
    walk_at "n"
    rw [txt_len]
    refine ⟨by omega, ?_⟩
    have one : ∀ c, PySem.NumText.digitsVal [c] = c - 48 := fun c => by
      show 0 * 10 + (c - 48) = _
      omega
    cases todo with
    | nil =>
      rw [List.append_nil] at es
      subst es
      cases post with
      | nil =>
        rw [decide_eq_false (by simp only [List.length_append, List.length_nil]; omega)]
        walk_at "n"
        rw [List.append_nil] at out
        exact out
      | cons c t =>
        rw [decide_eq_true (by simp only [List.length_append, List.length_cons]; omega)]
        have ea : (pre ++ (d ++ c :: t))[pre.length + d.length]? = some c := by
          rw [← List.append_assoc, ← List.length_append]
          exact at_app
        walk_at "n"
        refine ix_txt ea (by omega) hl ?_
        walk_at "n"
        refine ⟨c, rfl, ?_⟩
        rcases hq c t rfl with hcd | nd
        · rw [decide_eq_true (digit_in hcd)]
          have ad : PySem.NumText.AllDigits [c] := fun x hx => by rw [List.mem_singleton] at hx; subst hx; exact hcd
          have no := hp c t rfl hcd
          walk_at "n"
          refine ⟨mulOk_r (by decide), ix_txt ea (by omega) hl ?_⟩
          walk_at "n"
          rw [txt_list]
          refine ⟨⟨ad, List.cons_ne_nil _ _, by rw [txt_len]; show 1 ≤ 4300; decide⟩, ?_⟩
          rw [one]
          walk_at "n"
          rw [decide_eq_false (show ¬ ((PySem.NumText.digitsVal d : Nat) : Int) * 10 + ((c - 48 : Nat) : Int) ≤ most by omega)]
          walk_at "n"
          exact out
        · rw [decide_eq_false (show ¬ c ∈ (Str.ofString "0123456789").cps.toList by rw [txt_digits, txt_list]; exact nd)]
          walk_at "n"
          exact out
    | cons c t =>
      have L3 : d.length = done.length + t.length + 1 := L2
      rw [decide_eq_true (by rw [List.length_append, List.length_append]; omega)]
      have ea : (pre ++ (d ++ post))[pre.length + done.length]? = some c := by
        rw [es, List.append_assoc, ← List.append_assoc, ← List.length_append]
        exact at_app
      have cm : c ∈ d := es ▸ List.mem_append_right _ (List.mem_cons_self ..)
      have hcd := hd c cm
      have vm : PySem.NumText.digitsVal (done ++ [c]) ≤ most := by
        have := val_mono t (done ++ [c])
        rw [List.append_assoc, show [c] ++ t = c :: t from rfl, ← es] at this
        omega
      rw [PySem.NumText.digitsVal_snoc] at vm
      have ad : PySem.NumText.AllDigits [c] := fun x hx => by rw [List.mem_singleton] at hx; subst hx; exact hcd
      walk_at "n"
      refine ix_txt ea (by omega) hl ?_
      walk_at "n"
      refine ⟨c, rfl, ?_⟩
      rw [decide_eq_true (digit_in hcd)]
      walk_at "n"
      refine ⟨mulOk_r (by decide), ix_txt ea (by omega) hl ?_⟩
      walk_at "n"
      rw [txt_list]
      refine ⟨⟨ad, List.cons_ne_nil _ _, by rw [txt_len]; show 1 ≤ 4300; decide⟩, ?_⟩
      rw [one]
      walk_at "n"
      rw [decide_eq_true (show ((PySem.NumText.digitsVal done : Nat) : Int) * 10 + ((c - 48 : Nat) : Int) ≤ most by omega)]
      walk_at "n"
      refine seq_step fun M2 hM2 => ?_
      walk_at "n"
      refine ⟨mulOk_r (by decide), ix_txt ea (by omega) hl ?_⟩
      walk_at "n"
      rw [txt_list]
      refine ⟨⟨ad, List.cons_ne_nil _ _, by rw [txt_len]; show 1 ≤ 4300; decide⟩, ?_⟩
      rw [one]
      walk_at "n"
      refine hM2 _ _ ?_
      walk_at "n"
      refine nx t.length _ _ (by rw [em]; exact Nat.lt_succ_self _) ⟨rfl, done ++ [c], t, by rw [es, List.append_assoc]; rfl, rfl, ?_⟩
      rw [List.length_append, List.length_singleton, PySem.NumText.digitsVal_snoc]
      show [Sl.val _, Sl.val (D.int _), _, _, Sl.val (D.int _), _] = [Sl.val _, Sl.val (D.int _), _, _, Sl.val (D.int _), _]
      rw [show (pre.length : Int) + done.length + 1 = (pre.length : Int) + ((done.length + 1 : Nat) : Int) by omega, show ((PySem.NumText.digitsVal done : Nat) : Int) * 10 + ((c - 48 : Nat) : Int) = ((PySem.NumText.digitsVal done * 10 + (c - 48) : Nat) : Int) by omega]
  · rw [show PySem.NumText.digitsVal [] = 0 from rfl]
    simp
theorem pure_scan_power {ds : List D} {hc : CH} {Q : D → CH → Prop} {E} (h : sp_scan_power ds hc Q E) : c_scan_power { nx := fun _ hc' => Q .non hc', rt := Q, xp := fun x _ hc' => E x hc' } (startC N_scan_power ds) hc := by
  rcases h with ⟨pre, pw, most, k, rfl, ⟨⟨sg, d, rfl, hsg, hd, hn, hv, hk⟩⟩, hl, q⟩ | h
  case inr => exact pure_scan_powerE h
  unfold c_scan_power N_scan_power
  have sz := sizeLine_eq
  have L := hl
  rw [List.length_append, List.length_append] at L
  obtain ⟨c0, d', rfl⟩ : ∃ c0 d', d = c0 :: d' := by
    cases d with
    | nil => exact absurd rfl hn
    | cons c t => exact ⟨c, t, rfl⟩
  have hc0 := hd c0 (List.mem_cons_self ..)
  refine seq_step fun M hM => ?_
  walk_at "n"
  refine sl_txt (k := 1) rfl rfl hl ?_
  have e1 : ((sg ++ c0 :: d').take 1 = [45]) ↔ sg = [45] := by
    rcases hsg with rfl | rfl | rfl
    · refine ⟨fun z => ?_, fun z => by cases z⟩
      have z : [c0] = [45] := z
      injection z with z
      omega
    · exact ⟨fun z => absurd (show [43] = [45] from z) (by decide), fun z => absurd z (by decide)⟩
    · exact ⟨fun _ => rfl, fun _ => rfl⟩
  have e2 : ((sg ++ c0 :: d').take 1 = [43]) ↔ sg = [43] := by
    rcases hsg with rfl | rfl | rfl
    · refine ⟨fun z => ?_, fun z => by cases z⟩
      have z : [c0] = [43] := z
      injection z with z
      omega
    · exact ⟨fun _ => rfl, fun _ => rfl⟩
    · exact ⟨fun z => absurd (show [45] = [43] from z) (by decide), fun z => absurd z (by decide)⟩
  have le : ∀ c ∈ (sg ++ c0 :: d').take 1, c < 128 := fun c m => by
    rcases hsg with rfl | rfl | rfl
    · have m : c ∈ [c0] := m
      rw [List.mem_singleton] at m
      omega
    · have m : c ∈ [43] := m
      rw [List.mem_singleton] at m
      omega
    · have m : c ∈ [45] := m
      rw [List.mem_singleton] at m
      omega
  walk_at "n"
  rw [txt_minus]
  rw [show decide (txt ((sg ++ c0 :: d').take 1) = txt [45]) = decide (sg = [45]) from decide_eq_decide.mpr (txt_inj.trans e1)]
  refine hM _ _ ?_
  refine seq_step fun M hM => ?_
  walk_at "n"
  refine sl_txt (k := 1) rfl rfl hl ?_
  walk_at "n"
  refine ⟨by decide, in_pm le ?_⟩
  rw [show decide ((sg ++ c0 :: d').take 1 = [45] ∨ (sg ++ c0 :: d').take 1 = [43]) = decide (sg ≠ []) from decide_eq_decide.mpr (by
    rw [e1, e2]
    rcases hsg with rfl | rfl | rfl <;> simp)]
  walk_at "n"
  have e3 : (pre.length : Int) + (if decide (sg ≠ []) = true then 1 else 0) = ((pre ++ sg).length : Int) := by
    rw [List.length_append]
    rcases hsg with rfl | rfl | rfl <;> simp
  rw [e3]
  clear e3 e1 e2 le
  refine hM _ _ ?_
  rw [← List.append_assoc] at hl ⊢
  clear L
  generalize hpb : pre ++ sg = pb at hl ⊢
  generalize hdd : c0 :: d' = d at *
  clear hsg hpb
  have L := hl
  rw [List.length_append] at L
  refine seq_step fun M hM => ?_
  walk_at "n"
  refine hM _ _ ?_
  refine seq_step fun M hM => ?_
  have out : M [.val (.str (txt (pb ++ d))), .val (.int ((pb.length : Int) + d.length)), .val (.int ((most : Nat) : Int)), .val (.bl (decide (sg = [45]))), .val (.int ((PySem.NumText.digitsVal d : Nat) : Int)), .val (.int (pb.length : Int))] hc := by
    refine hM _ _ ?_
    refine seq_step fun M hM => ?_
    have d0 : 0 < d.length := List.length_pos_iff.mpr hn
    walk_at "n"
    rw [decide_eq_false (show ¬ (pb.length : Int) + d.length = pb.length by omega)]
    walk_at "n"
    rw [txt_len, List.length_append]
    refine ⟨by omega, ?_⟩
    rw [decide_eq_false (show ¬ (pb.length : Int) + d.length < ((pb.length + d.length : Nat) : Int) by omega)]
    walk_at "n"
    refine hM _ _ ?_
    walk_at "n"
    by_cases z : sg = [45]
    · rw [if_pos z] at hk
      rw [if_pos (decide_eq_true z), ← hk]
      exact q
    · rw [if_neg z] at hk
      rw [if_neg (by rw [decide_eq_false z]; exact Bool.false_ne_true), ← hk]
      exact q
  refine wh_inv (fun m sc h => h = hc ∧ ∃ done todo, d = done ++ todo ∧ m = todo.length ∧ sc = [.val (.str (txt (pb ++ d))), .val (.int ((pb.length : Int) + done.length)), .val (.int ((most : Nat) : Int)), .val (.bl (decide (sg = [45]))), .val (.int ((PySem.NumText.digitsVal done : Nat) : Int)), .val (.int (pb.length : Int))]) (fun m sc h Nx I nx => ?_) (m := d.length) ⟨rfl, [], d, rfl, rfl, ?_⟩
  · obtain ⟨rfl, done, todo, es, em, rfl⟩ := I
    have L2 : d.length = done.length + todo.length := by rw [es, List.length_append]
    walk_at "n"
    rw [txt_len]
    refine ⟨by omega, ?_⟩
    cases todo with
    | nil =>
      rw [List.append_nil] at es
      subst es
      rw [decide_eq_false (by rw [List.length_append]; omega)]
      walk_at "n"
      exact out
    | cons c t =>
      have L3 : d.length = done.length + t.length + 1 := L2
      rw [decide_eq_true (by rw [List.length_append]; omega)]
      have ea : (pb ++ d)[pb.length + done.length]? = some c := by
        rw [es, ← List.append_assoc, ← List.length_append]
        exact at_app
      have cm : c ∈ d := es ▸ List.mem_append_right _ (List.mem_cons_self ..)
      have hcd := hd c cm
      have one : PySem.NumText.digitsVal [c] = c - 48 := by
        show 0 * 10 + (c - 48) = _
        omega
      have vm : PySem.NumText.digitsVal (done ++ [c]) ≤ most := by
        have := val_mono t (done ++ [c])
        rw [List.append_assoc, show [c] ++ t = c :: t from rfl, ← es] at this
        omega
      rw [PySem.NumText.digitsVal_snoc] at vm
      have ad : PySem.NumText.AllDigits [c] := fun x hx => by rw [List.mem_singleton] at hx; subst hx; exact hcd
      walk_at "n"
      refine ix_txt ea (by omega) hl ?_
      walk_at "n"
      refine ⟨c, rfl, ?_⟩
      rw [decide_eq_true (digit_in hcd)]
      walk_at "n"
      refine ⟨mulOk_r (by decide), ix_txt ea (by omega) hl ?_⟩
      walk_at "n"
      rw [txt_list]
      refine ⟨⟨ad, List.cons_ne_nil _ _, by rw [txt_len]; show 1 ≤ 4300; decide⟩, ?_⟩
      rw [one]
      walk_at "n"
      rw [decide_eq_true (show ((PySem.NumText.digitsVal done : Nat) : Int) * 10 + ((c - 48 : Nat) : Int) ≤ most by omega)]
      walk_at "n"
      refine seq_step fun M2 hM2 => ?_
      walk_at "n"
      refine ⟨mulOk_r (by decide), ix_txt ea (by omega) hl ?_⟩
      walk_at "n"
      rw [txt_list]
      refine ⟨⟨ad, List.cons_ne_nil _ _, by rw [txt_len]; show 1 ≤ 4300; decide⟩, ?_⟩
      rw [one]
      walk_at "n"
      refine hM2 _ _ ?_
      walk_at "n"
      refine nx t.length _ _ (by rw [em]; exact Nat.lt_succ_self _) ⟨rfl, done ++ [c], t, by rw [es, List.append_assoc]; rfl, rfl, ?_⟩
      rw [List.length_append, List.length_singleton, PySem.NumText.digitsVal_snoc]
      show [Sl.val _, Sl.val (D.int _), _, _, Sl.val (D.int _), _] = [Sl.val _, Sl.val (D.int _), _, _, Sl.val (D.int _), _]
      rw [show (pb.length : Int) + done.length + 1 = (pb.length : Int) + ((done.length + 1 : Nat) : Int) by omega, show ((PySem.NumText.digitsVal done : Nat) : Int) * 10 + ((c - 48 : Nat) : Int) = ((PySem.NumText.digitsVal done * 10 + (c - 48) : Nat) : Int) by omega]
  · rw [show PySem.NumText.digitsVal [] = 0 from rfl]
    simp
theorem at_scan_power (T : Txt K mg) (B : BaseT K mg base) (KX : K.In base) (PS : Sup P mf)  : FnAt P w K mg base 2 "scan_power" ["text", "at", "most"] sp_scan_power :=
  fn_at (c := c_scan_power) T.d_scan_power sc_scan_power (fun f cdv A outer s H E hr => by
    have nd := sc_scan_power.nd
    exact (css_cons (cs_set nd (ce_cmp (op_eqDD hr.g.units) (CE.bo (ce_sl (CE.bo (ce_v 0)) (co_some (ce_v 1)) (co_some (ce_op op_addD (CE.bo (ce_v 1)) (CE.bo ce_i))))) (CE.bo ce_s)))
    (css_cons (cs_set nd (ce_op op_addD (CE.bo (ce_v 1)) (CE.bo (ce_bt (bt_intT T.lim) T.n_int (cba_cons (CE.bo (ce_cmp (op_inDD hr.g) (CE.bo (ce_sl (CE.bo (ce_v 0)) (co_some (ce_v 1)) (co_some (ce_op op_addD (CE.bo (ce_v 1)) (CE.bo ce_i))))) (CE.bo (ce_tup (ca_cons ce_s (ca_cons ce_s ca_nil)))))) cba_nil)))))
    (css_cons (cs_par rfl nd (ca_cons ce_i (ca_cons (ce_v 1) ca_nil)))
    (css_cons (cs_while hr.p (CW.t (cw_and (ct_cmp op_ltD (CE.bo (ce_v 1)) (CE.bo (ce_bf bf_len T.n_len (cba_cons (CE.bo (ce_v 0)) cba_nil)))) (cw_and (ct_cmp (op_inXD hr.g) (CE.bo (ce_ix (CE.bo (ce_v 0)) (ce_v 1))) (CE.bo (ce_gc (T.k_DIGITS)))) (cw_and1 (ct_cmp op_leD (CE.bo (ce_op op_addD (CE.bo (ce_op op_mulD (CE.bo (ce_v 4)) (CE.bo ce_i))) (CE.bo (ce_bt (bt_intT T.lim) T.n_int (cba_cons (CE.bo (ce_ix (CE.bo (ce_v 0)) (ce_v 1))) cba_nil))))) (CE.bo (ce_v 2)))))))
    (css_cons (cs_set nd (ce_op op_addD (CE.bo (ce_op op_mulD (CE.bo (ce_v 4)) (CE.bo ce_i))) (CE.bo (ce_bt (bt_intT T.lim) T.n_int (cba_cons (CE.bo (ce_ix (CE.bo (ce_v 0)) (ce_v 1))) cba_nil)))))
    (css_one (cs_set nd (ce_op op_addD (CE.bo (ce_v 1)) (CE.bo ce_i))))))
    (css_cons (cs_if (CW.t (cw_or (ct_cmp (op_eqDD hr.g.units) (CE.bo (ce_v 1)) (CE.bo (ce_v 5))) (cw_or1 (ct_cmp op_ltD (CE.bo (ce_v 1)) (CE.bo (ce_bf bf_len T.n_len (cba_cons (CE.bo (ce_v 0)) cba_nil)))))))
    (css_one (cs_raiseC hr T.x_BadText PS T.n_super (ce_v 1)))
    css_nil)
    (css_one (cs_ret (CE.bo (ce_if (ct_e (ce_v 3)) (ce_op op_subD (CE.bo ce_i) (CE.bo (ce_v 4))) (ce_v 4)))))))))))
    (fun ds hc Q E h => len_scan_power h) (fun ds hc Q E h => pure_scan_power h) (fun _ _ _ _ _ _ us hl => match us, hl with | [_, _, _], _ => rfl)
abbrev N_scan_hex : List Str := ["text", "at", "digits", "behind"]
def c_scan_hex : CSx :=
  (cSeq (cAsg (cCall sp_scan_digits (cCons (cV 0) (cCons (cV 1) (cCons (cC (.str "0123456789abcdef")) (cCons (cC (.int 300)) cNil))))) (gUn 3 (gCons' (gN 2) (gCons' (gN 3) (gCons' (gN 1) gNil')))))
    (cSeq (cIfS (cT (cOp neD (cSl (cV 0) (cSoP (cV 1)) (cSoP (cOp addD (cV 1) (cC (.int 1))))) (cC (.str "p"))))
    (cRaise "BadText" "place" (cV 1))
    cNext)
    (cRet (cTup (cCons (cC (.int 2)) (cCons (cFn intTD (cCons (cV 2) (cCons (cC (.int 16)) cNil))) (cCons (cOp subD (cCall sp_scan_power (cCons (cV 0) (cCons (cOp addD (cV 1) (cC (.int 1))) (cCons (cC (.int 1400)) cNil)))) (cOp mulD (cC (.int 4)) (cV 3))) cNil)))))))
def sp_scan_hex : Spc := fun ds hc Q _ => ∃ pre sh pw dg b k, ds = [.str (txt (pre ++ (sh ++ 112 :: pw))), .int (pre.length : Int)] ∧ ShT hexL 300 sh dg b ∧ PwT 1400 pw k ∧ (pre ++ (sh ++ 112 :: pw)).length ≤ 100000 ∧ Q (.tup [.int 2, .int ((Hx.hexNum dg : Nat) : Int), .int (k - 4 * (b : Int))]) hc
theorem len_scan_hex {ds : List D} {hc : CH} {Q E} (h : sp_scan_hex ds hc Q E) : ds.length = 2 := by
  obtain ⟨pre, sh, pw, dg, b, k, rfl, _⟩ := h
  rfl
theorem pure_scan_hex {ds : List D} {hc : CH} {Q : D → CH → Prop} {E} (h : sp_scan_hex ds hc Q E) : c_scan_hex { nx := fun _ hc' => Q .non hc', rt := Q, xp := fun x _ hc' => E x hc' } (startC N_scan_hex ds) hc := by
  obtain ⟨pre, sh, pw, dg, b, k, rfl, s, hp, hl, q⟩ := h
  unfold c_scan_hex N_scan_hex
  have sz := sizeLine_eq
  have L := hl
  rw [List.length_append, List.length_append] at L
  refine seq_step fun M hM => ?_
  walk_at "n"
  rw [show (D.str "0123456789abcdef") = .str (txt hexL) from congrArg D.str txt_hexs]
  refine .inl ⟨pre, sh, 112 :: pw, hexL, 300, dg, b, rfl, s, by decide, fun c t e => ?_, hl, ?_⟩
  · cases e
    decide
  walk_at "n"
  refine hM _ _ ?_
  have ea : (pre ++ (sh ++ 112 :: pw))[pre.length + sh.length]? = some 112 := by
    rw [← List.append_assoc, ← List.length_append]
    exact at_app
  refine seq_step fun M hM => ?_
  walk_at "n"
  refine sl_one ea (by omega) (by omega) hl ?_
  walk_at "n"
  rw [decide_eq_true (show txt [112] = Str.ofString "p" by decide +kernel)]
  walk_at "n"
  refine hM _ _ ?_
  walk_at "n"
  rw [txt_list]
  refine ⟨⟨hexL_all s.mem, s.ne, by rw [txt_len]; have := s.len; omega⟩, .inl ⟨pre ++ (sh ++ [112]), pw, 1400, k, ?_, hp, ?_, ?_⟩⟩
  · have e2 : pre.length + (sh.length + 1) = (pre ++ (sh ++ [112])).length := by
      rw [List.length_append, List.length_append, List.length_singleton]
    rw [show pre ++ (sh ++ [112]) ++ pw = pre ++ (sh ++ 112 :: pw) by rw [List.append_assoc, List.append_assoc]; rfl, ← e2]
    rw [show (pre.length : Int) + sh.length + 1 = ((pre.length + (sh.length + 1) : Nat) : Int) by omega]
    rfl
  · rw [show pre ++ (sh ++ [112]) ++ pw = pre ++ (sh ++ 112 :: pw) by rw [List.append_assoc, List.append_assoc]; rfl]
    exact hl
  · walk_at "n"
    exact ⟨mulOk_l (by decide), by decide, q⟩
theorem at_scan_hex (T : Txt K mg) (B : BaseT K mg base) (KX : K.In base) (PS : Sup P mf) (A_scan_digits : FnAt P w K mg base 2 "scan_digits" ["text", "at", "signs", "most"] sp_scan_digits) (A_scan_power : FnAt P w K mg base 2 "scan_power" ["text", "at", "most"] sp_scan_power) : FnAt P w K mg base 3 "scan_hex" ["text", "at"] sp_scan_hex :=
  fn_at (c := c_scan_hex) T.d_scan_hex sc_scan_hex (fun f cdv A outer s H E hr => by
    have nd := sc_scan_hex.nd
    exact (css_cons (cs_asg (ce_f A_scan_digits hr (ca_cons (ce_v 0) (ca_cons (ce_v 1) (ca_cons (ce_gc (T.k_HEX_DIGITS)) (ca_cons (ce_gc (T.k_MOST_HEX)) ca_nil))))) (cg_u rfl (cgs_cons (cg_n 2 nd) (cgs_cons (cg_n 3 nd) (cgs_cons (cg_n 1 nd) cgs_nil)))))
    (css_cons (cs_if (ct_cmp (op_neDD hr.g.units) (CE.bo (ce_sl (CE.bo (ce_v 0)) (co_some (ce_v 1)) (co_some (ce_op op_addD (CE.bo (ce_v 1)) (CE.bo ce_i))))) (CE.bo ce_s))
    (css_one (cs_raiseC hr T.x_BadText PS T.n_super (ce_v 1)))
    css_nil)
    (css_one (cs_ret (CE.bo (ce_tup (ca_cons ce_i (ca_cons (ce_bt (bt_intT T.lim) T.n_int (cba_cons (CE.bo (ce_v 2)) (cba_cons (CE.bo ce_i) cba_nil))) (ca_cons (ce_op op_subD (CE.bo (ce_f A_scan_power hr (ca_cons (ce_v 0) (ca_cons (ce_op op_addD (CE.bo (ce_v 1)) (CE.bo ce_i)) (ca_cons (ce_gc (T.k_MOST_HEX_POWER)) ca_nil))))) (CE.bo (ce_op op_mulD (CE.bo ce_i) (CE.bo (ce_v 3))))) ca_nil))))))))))
    (fun ds hc Q E h => len_scan_hex h) (fun ds hc Q E h => pure_scan_hex h) (fun _ _ _ _ _ _ us hl => match us, hl with | [_, _], _ => rfl)
abbrev N_scan_decimal : List Str := ["text", "at", "digits", "behind", "power"]
def c_scan_decimal : CSx :=
  (cSeq (cAsg (cCall sp_scan_digits (cCons (cV 0) (cCons (cV 1) (cCons (cC (.str "0123456789")) (cCons (cC (.int 1300)) cNil))))) (gUn 3 (gCons' (gN 2) (gCons' (gN 3) (gCons' (gN 1) gNil')))))
    (cSeq (cAsg (cC (.int 0)) (gN 4))
    (cSeq (cIfS (cT (cOp ltD (cV 1) (cFn lenD (cCons (cV 0) cNil))))
    (cSeq (cIfS (cT (cOp neD (cOp ixD (cV 0) (cV 1)) (cC (.str "e"))))
    (cRaise "BadText" "place" (cV 1))
    cNext)
    (cAsg (cCall sp_scan_power (cCons (cV 0) (cCons (cOp addD (cV 1) (cC (.int 1))) (cCons (cC (.int 1200)) cNil)))) (gN 4)))
    cNext)
    (cRet (cTup (cCons (cC (.int 10)) (cCons (cFn intTD (cCons (cV 2) cNil)) (cCons (cOp subD (cV 4) (cV 3)) cNil))))))))
def DecW (pre rest : List Nat) (pos : Int) : Prop := ((∀ c t, rest = c :: t → c ∉ decL ∧ c ≠ 46) ∧ pos = (pre.length : Int)) ∨
  ∃ sh dg b pd post, rest = sh ++ 101 :: (pd ++ post) ∧ ShT decL 1300 sh dg b ∧ PySem.NumText.AllDigits pd ∧ PySem.NumText.digitsVal pd ≤ 1200 ∧ (post = [] → pd = []) ∧ (∀ c t, post = c :: t → 48 ≤ c ∧ c ≤ 57 → ¬ PySem.NumText.digitsVal pd * 10 + (c - 48) ≤ 1200) ∧ (∀ c t, post = c :: t → 48 ≤ c ∧ c ≤ 57 ∨ ¬ c ∈ decL) ∧ (pd ++ post).take 1 ≠ [45] ∧ (pd ++ post).take 1 ≠ [43] ∧ (∀ c ∈ (pd ++ post).take 1, c < 128) ∧ pos = (pre.length : Int) + sh.length + 1 + pd.length
def sp_scan_decimal : Spc := fun ds hc Q E => (∃ pre sh tail dg b k, ds = [.str (txt (pre ++ (sh ++ tail))), .int (pre.length : Int)] ∧ ShT decL 1300 sh dg b ∧ TailT 1200 tail k ∧ (pre ++ (sh ++ tail)).length ≤ 100000 ∧ Q (.tup [.int 10, .int ((PySem.NumText.digitsVal dg : Nat) : Int), .int (k - (b : Int))]) hc) ∨ ∃ pre rest pos, ds = [.str (txt (pre ++ rest)), .int (pre.length : Int)] ∧ DecW pre rest pos ∧ (pre ++ rest).length ≤ 100000 ∧ E ⟨"BadText", [("place", .int pos)]⟩ hc
theorem len_scan_decimal {ds : List D} {hc : CH} {Q E} (h : sp_scan_decimal ds hc Q E) : ds.length = 2 := by
  rcases h with ⟨pre, sh, tail, dg, b, k, rfl, _⟩ | ⟨pre, rest, pos, rfl, _⟩ <;> rfl
theorem pure_scan_decimalE {ds : List D} {hc : CH} {Q : D → CH → Prop} {E : Exn → CH → Prop} (h : ∃ pre rest pos, ds = [.str (txt (pre ++ rest)), .int (pre.length : Int)] ∧ DecW pre rest pos ∧ (pre ++ rest).length ≤ 100000 ∧ E ⟨"BadText", [("place", .int pos)]⟩ hc) : c_scan_decimal { nx := fun _ hc' => Q .non hc', rt := Q, xp := fun x _ hc' => E x hc' } (startC N_scan_decimal ds) hc := by
  obtain ⟨pre, rest, pos, rfl, w, hl, q⟩ := h
  unfold c_scan_decimal N_scan_decimal
  have sz := sizeLine_eq
  refine seq_step fun M hM => ?_
  walk_at "n"
  rw [show (D.str "0123456789") = .str (txt decL) from congrArg D.str txt_digits]
  rcases w with ⟨w, rfl⟩ | ⟨sh, dg, b, pd, post, rfl, s, hd, hv, hn, hp, hq, t45, t43, le, rfl⟩
  · exact .inr ⟨pre, rest, decL, 1300, rfl, w, hl, q⟩
  refine .inl ⟨pre, sh, 101 :: (pd ++ post), decL, 1300, dg, b, rfl, s, by decide, fun c t e => ?_, hl, ?_⟩
  · cases e
    decide
  walk_at "n"
  refine hM _ _ ?_
  refine seq_step fun M hM => ?_
  walk_at "n"
  refine hM _ _ ?_
  refine seq_step fun M hM => ?_
  have L := hl
  rw [List.length_append, List.length_append] at L
  walk_at "n"
  rw [txt_len, List.length_append, List.length_append]
  refine ⟨by omega, ?_⟩
  rw [decide_eq_true (show (pre.length : Int) + sh.length < ((pre.length + (sh.length + (101 :: (pd ++ post) : List Nat).length) : Nat) : Int) by rw [List.length_cons]; omega)]
  have ea : (pre ++ (sh ++ 101 :: (pd ++ post)))[pre.length + sh.length]? = some 101 := by
    rw [← List.append_assoc, ← List.length_append]
    exact at_app
  walk_at "n"
  refine seq_step fun M2 hM2 => ?_
  walk_at "n"
  refine ix_txt ea (by omega) hl ?_
  walk_at "n"
  rw [decide_eq_true (show txt [101] = Str.ofString "e" by decide +kernel)]
  walk_at "n"
  refine hM2 _ _ ?_
  walk_at "n"
  have e2 : pre.length + (sh.length + 1) = (pre ++ (sh ++ [101])).length := by
    rw [List.length_append, List.length_append, List.length_singleton]
  refine .inr ⟨pre ++ (sh ++ [101]), pd, post, 1200, ?_, hd, hv, hn, hp, hq, t45, t43, le, ?_, ?_⟩
  · rw [show pre ++ (sh ++ [101]) ++ (pd ++ post) = pre ++ (sh ++ 101 :: (pd ++ post)) by rw [List.append_assoc, List.append_assoc]; rfl, ← e2]
    rw [show (pre.length : Int) + sh.length + 1 = ((pre.length + (sh.length + 1) : Nat) : Int) by omega]
    rfl
  · rw [show pre ++ (sh ++ [101]) ++ (pd ++ post) = pre ++ (sh ++ 101 :: (pd ++ post)) by rw [List.append_assoc, List.append_assoc]; rfl]
    exact hl
  · rw [← e2, show ((pre.length + (sh.length + 1) : Nat) : Int) + pd.length = (pre.length : Int) + sh.length + 1 + pd.length by omega]
    exact q
theorem pure_scan_decimal {ds : List D} {hc : CH} {Q : D → CH → Prop} {E} (h : sp_scan_decimal ds hc Q E) : c_scan_decimal { nx := fun _ hc' => Q .non hc', rt := Q, xp := fun x _ hc' => E x hc' } (startC N_scan_decimal ds) hc := by
  rcases h with ⟨pre, sh, tail, dg, b, k, rfl, s, ht, hl, q⟩ | h
  case inr => exact pure_scan_decimalE h
  unfold c_scan_decimal N_scan_decimal
  have sz := sizeLine_eq
  have L := hl
  rw [List.length_append, List.length_append] at L
  refine seq_step fun M hM => ?_
  walk_at "n"
  rw [show (D.str "0123456789") = .str (txt decL) from congrArg D.str txt_digits]
  refine .inl ⟨pre, sh, tail, decL, 1300, dg, b, rfl, s, by decide, fun c t e => ?_, hl, ?_⟩
  · rcases ht with ⟨rfl, _⟩ | ⟨pw, rfl, _⟩
    · cases e
    · cases e
      decide
  walk_at "n"
  refine hM _ _ ?_
  refine seq_step fun M hM => ?_
  walk_at "n"
  refine hM _ _ ?_
  refine seq_step fun M hM => ?_
  have out : M [.val (.str (txt (pre ++ (sh ++ tail)))), .val (.int ((pre.length : Int) + sh.length)), .val (.str (txt dg)), .val (.int (b : Int)), .val (.int k)] hc := by
    refine hM _ _ ?_
    walk_at "n"
    rw [txt_list]
    exact ⟨⟨decL_all s.mem, s.ne, by rw [txt_len]; have := s.len; omega⟩, by decide, q⟩
  walk_at "n"
  rw [txt_len, List.length_append, List.length_append]
  refine ⟨by omega, ?_⟩
  rcases ht with ⟨rfl, rfl⟩ | ⟨pw, rfl, hp⟩
  · rw [decide_eq_false (show ¬ (pre.length : Int) + sh.length < ((pre.length + (sh.length + ([] : List Nat).length) : Nat) : Int) by rw [List.length_nil]; omega)]
    walk_at "n"
    rw [List.append_nil] at out
    exact out
  · rw [decide_eq_true (show (pre.length : Int) + sh.length < ((pre.length + (sh.length + (101 :: pw : List Nat).length) : Nat) : Int) by rw [List.length_cons]; omega)]
    have ea : (pre ++ (sh ++ 101 :: pw))[pre.length + sh.length]? = some 101 := by
      rw [← List.append_assoc, ← List.length_append]
      exact at_app
    walk_at "n"
    refine seq_step fun M2 hM2 => ?_
    walk_at "n"
    refine ix_txt ea (by omega) hl ?_
    walk_at "n"
    rw [decide_eq_true (show txt [101] = Str.ofString "e" by decide +kernel)]
    walk_at "n"
    refine hM2 _ _ ?_
    walk_at "n"
    refine .inl ⟨pre ++ (sh ++ [101]), pw, 1200, k, ?_, hp, ?_, ?_⟩
    · have e2 : pre.length + (sh.length + 1) = (pre ++ (sh ++ [101])).length := by
        rw [List.length_append, List.length_append, List.length_singleton]
      rw [show pre ++ (sh ++ [101]) ++ pw = pre ++ (sh ++ 101 :: pw) by rw [List.append_assoc, List.append_assoc]; rfl, ← e2]
      rw [show (pre.length : Int) + sh.length + 1 = ((pre.length + (sh.length + 1) : Nat) : Int) by omega]
      rfl
    · rw [show pre ++ (sh ++ [101]) ++ pw = pre ++ (sh ++ 101 :: pw) by rw [List.append_assoc, List.append_assoc]; rfl]
      exact hl
    · walk_at "n"
      exact out
theorem at_scan_decimal (T : Txt K mg) (B : BaseT K mg base) (KX : K.In base) (PS : Sup P mf) (A_scan_digits : FnAt P w K mg base 2 "scan_digits" ["text", "at", "signs", "most"] sp_scan_digits) (A_scan_power : FnAt P w K mg base 2 "scan_power" ["text", "at", "most"] sp_scan_power) : FnAt P w K mg base 3 "scan_decimal" ["text", "at"] sp_scan_decimal :=
  fn_at (c := c_scan_decimal) T.d_scan_decimal sc_scan_decimal (fun f cdv A outer s H E hr => by
    have nd := sc_scan_decimal.nd
    exact (css_cons (cs_asg (ce_f A_scan_digits hr (ca_cons (ce_v 0) (ca_cons (ce_v 1) (ca_cons (ce_gc (T.k_DIGITS)) (ca_cons (ce_gc (T.k_MOST_DIGITS)) ca_nil))))) (cg_u rfl (cgs_cons (cg_n 2 nd) (cgs_cons (cg_n 3 nd) (cgs_cons (cg_n 1 nd) cgs_nil)))))
    (css_cons (cs_set nd ce_i)
    (css_cons (cs_if (ct_cmp op_ltD (CE.bo (ce_v 1)) (CE.bo (ce_bf bf_len T.n_len (cba_cons (CE.bo (ce_v 0)) cba_nil))))
    (css_cons (cs_if (ct_cmp (op_neDD hr.g.units) (CE.bo (ce_ix (CE.bo (ce_v 0)) (ce_v 1))) (CE.bo ce_s))
    (css_one (cs_raiseC hr T.x_BadText PS T.n_super (ce_v 1)))
    css_nil)
    (css_one (cs_set nd (ce_f A_scan_power hr (ca_cons (ce_v 0) (ca_cons (ce_op op_addD (CE.bo (ce_v 1)) (CE.bo ce_i)) (ca_cons (ce_gc (T.k_MOST_POWER)) ca_nil)))))))
    css_nil)
    (css_one (cs_ret (CE.bo (ce_tup (ca_cons ce_i (ca_cons (ce_bt (bt_intT T.lim) T.n_int (cba_cons (CE.bo (ce_v 2)) cba_nil)) (ca_cons (ce_op op_subD (CE.bo (ce_v 4)) (CE.bo (ce_v 3))) ca_nil)))))))))))
    (fun ds hc Q E h => len_scan_decimal h) (fun ds hc Q E h => pure_scan_decimal h) (fun _ _ _ _ _ _ us hl => match us, hl with | [_, _], _ => rfl)
abbrev N_parse_text : List Str := ["value", "sign", "at"]
def c_parse_text : CSx :=
  (cSeq (cIfS (cNot (cT (cUn (isiD "str") (cV 0))))
    (cRaise "BadText" "place" (cC .non))
    cNext)
    (cSeq (cAsg (cFn intFD (cCons (cOp eqD (cSl (cV 0) cNoP (cSoP (cC (.int 1)))) (cC (.str "-"))) cNil)) (gN 1))
    (cSeq (cAsg (cFn intFD (cCons (cOp inD (cSl (cV 0) cNoP (cSoP (cC (.int 1)))) (cTup (cCons (cC (.str "-")) (cCons (cC (.str "+")) cNil)))) cNil)) (gN 2))
    (cSeq (cIfS (cT (cOp eqD (cSl (cV 0) (cSoP (cV 2)) (cSoP (cOp addD (cV 2) (cC (.int 1))))) (cC (.str "i"))))
    (cSeq (cDrop (cCall sp_scan_word (cCons (cV 0) (cCons (cV 2) (cCons (cC (.str "inf")) cNil)))))
    (cRet (cTup (cCons (cV 1) (cCons (cC (.str "inf")) cNil)))))
    cNext)
    (cSeq (cIfS (cT (cOp eqD (cSl (cV 0) (cSoP (cV 2)) (cSoP (cOp addD (cV 2) (cC (.int 2))))) (cC (.str "0x"))))
    (cRet (cTup (cCons (cV 1) (cStar (cCall sp_scan_hex (cCons (cV 0) (cCons (cOp addD (cV 2) (cC (.int 2))) cNil))) cNil))))
    cNext)
    (cRet (cTup (cCons (cV 1) (cStar (cCall sp_scan_decimal (cCons (cV 0) (cCons (cV 2) cNil))) cNil)))))))))
def sp_parse_text : Spc := fun ds hc Q E => (∃ sg rest out, ds = [.str (txt (sg ++ rest))] ∧ (sg = [] ∨ sg = [43] ∨ sg = [45]) ∧ NumT rest out ∧ (sg ++ rest).length ≤ 100000 ∧ Q (.tup (.int (if sg = [45] then 1 else 0) :: out)) hc) ∨ (∃ v, ds = [v] ∧ (v = .non ∨ ∃ n : Int, v = .int n) ∧ E ⟨"BadText", [("place", .non)]⟩ hc) ∨ ∃ rest pos, ds = [.str (txt rest)] ∧ rest.take 1 ≠ [45] ∧ rest.take 1 ≠ [43] ∧ rest.take 1 ≠ [105] ∧ rest.take 2 ≠ [48, 120] ∧ (∀ c ∈ rest.take 1, c < 128) ∧ DecW [] rest pos ∧ rest.length ≤ 100000 ∧ E ⟨"BadText", [("place", .int pos)]⟩ hc
theorem len_parse_text {ds : List D} {hc : CH} {Q E} (h : sp_parse_text ds hc Q E) : ds.length = 1 := by
  rcases h with ⟨sg, rest, out, rfl, _⟩ | ⟨v, rfl, _⟩ | ⟨rest, pos, rfl, _⟩ <;> rfl
theorem numT_front {rest : List Nat} {out : List D} (h : NumT rest out) : ∃ c t, rest = c :: t ∧ c < 128 ∧ c ≠ 43 ∧ c ≠ 45 := by
  rcases h with ⟨rfl, _⟩ | ⟨sh, pw, dg, b, k, rfl, _⟩ | ⟨sh, tail, dg, b, k, rfl, s, _⟩
  · exact ⟨_, _, rfl, by decide, by decide, by decide⟩
  · exact ⟨_, _, rfl, by decide, by decide, by decide⟩
  · obtain ⟨c, t, rfl, hc, _⟩ := s.front
    refine ⟨c, t ++ tail, rfl, ?_⟩
    rcases hc with hc | rfl
    · have := decL_rng hc
      omega
    · decide
theorem pure_parse_textE {ds : List D} {hc : CH} {Q : D → CH → Prop} {E : Exn → CH → Prop} (h : (∃ v, ds = [v] ∧ (v = .non ∨ ∃ n : Int, v = .int n) ∧ E ⟨"BadText", [("place", .non)]⟩ hc) ∨ ∃ rest pos, ds = [.str (txt rest)] ∧ rest.take 1 ≠ [45] ∧ rest.take 1 ≠ [43] ∧ rest.take 1 ≠ [105] ∧ rest.take 2 ≠ [48, 120] ∧ (∀ c ∈ rest.take 1, c < 128) ∧ DecW [] rest pos ∧ rest.length ≤ 100000 ∧ E ⟨"BadText", [("place", .int pos)]⟩ hc) : c_parse_text { nx := fun _ hc' => Q .non hc', rt := Q, xp := fun x _ hc' => E x hc' } (startC N_parse_text ds) hc := by
  rcases h with ⟨v, rfl, hv, q⟩ | ⟨rest, pos, rfl, t45, t43, t105, t48, le, w, hl, q⟩
  · unfold c_parse_text N_parse_text
    refine seq_step fun M hM => ?_
    rcases hv with rfl | ⟨n, rfl⟩
    · walk_at "n"
      exact q
    · walk_at "n"
      exact q
  unfold c_parse_text N_parse_text
  have sz := sizeLine_eq
  refine seq_step fun M hM => ?_
  walk_at "n"
  refine hM _ _ ?_
  refine seq_step fun M hM => ?_
  walk_at "n"
  refine sl_head (k := 1) hl ?_
  walk_at "n"
  rw [txt_minus, decide_eq_false (show ¬ txt (rest.take 1) = txt [45] from fun z => t45 (txt_inj.mp z))]
  walk_at "n"
  refine hM _ _ ?_
  refine seq_step fun M hM => ?_
  walk_at "n"
  refine sl_head (k := 1) hl ?_
  walk_at "n"
  refine ⟨by decide, in_pm le ?_⟩
  rw [decide_eq_false (show ¬ (rest.take 1 = [45] ∨ rest.take 1 = [43]) from fun z => z.elim t45 t43)]
  walk_at "n"
  refine hM _ _ ?_
  refine seq_step fun M hM => ?_
  walk_at "n"
  refine sl_txt (pre := []) (rest := rest) (k := 1) rfl rfl hl ?_
  walk_at "n"
  rw [show Str.ofString "i" = txt [105] by decide +kernel, decide_eq_false (show ¬ txt (rest.take 1) = txt [105] from fun z => t105 (txt_inj.mp z))]
  walk_at "n"
  refine hM _ _ ?_
  refine seq_step fun M hM => ?_
  walk_at "n"
  refine sl_txt (pre := []) (rest := rest) (k := 2) rfl rfl hl ?_
  walk_at "n"
  rw [show Str.ofString "0x" = txt [48, 120] by decide +kernel, decide_eq_false (show ¬ txt (rest.take 2) = txt [48, 120] from fun z => t48 (txt_inj.mp z))]
  walk_at "n"
  refine hM _ _ ?_
  walk_at "n"
  exact .inr ⟨[], rest, pos, rfl, w, hl, q⟩
theorem pure_parse_text {ds : List D} {hc : CH} {Q : D → CH → Prop} {E} (h : sp_parse_text ds hc Q E) : c_parse_text { nx := fun _ hc' => Q .non hc', rt := Q, xp := fun x _ hc' => E x hc' } (startC N_parse_text ds) hc := by
  rcases h with ⟨sg, rest, out, rfl, hsg, hn, hl, q⟩ | h
  case inr => exact pure_parse_textE h
  unfold c_parse_text N_parse_text
  have sz := sizeLine_eq
  obtain ⟨c0, t0, er, c1, c2, c3⟩ := numT_front hn
  have e1 : ((sg ++ rest).take 1 = [45]) ↔ sg = [45] := by
    subst er
    rcases hsg with rfl | rfl | rfl
    · refine ⟨fun z => ?_, fun z => by cases z⟩
      have z : [c0] = [45] := z
      injection z with z
      omega
    · exact ⟨fun z => absurd (show [43] = [45] from z) (by decide), fun z => absurd z (by decide)⟩
    · exact ⟨fun _ => rfl, fun _ => rfl⟩
  have e2 : ((sg ++ rest).take 1 = [43]) ↔ sg = [43] := by
    subst er
    rcases hsg with rfl | rfl | rfl
    · refine ⟨fun z => ?_, fun z => by cases z⟩
      have z : [c0] = [43] := z
      injection z with z
      omega
    · exact ⟨fun _ => rfl, fun _ => rfl⟩
    · exact ⟨fun z => absurd (show [45] = [43] from z) (by decide), fun z => absurd z (by decide)⟩
  have le : ∀ c ∈ (sg ++ rest).take 1, c < 128 := fun c m => by
    subst er
    rcases hsg with rfl | rfl | rfl
    · have m : c ∈ [c0] := m
      rw [List.mem_singleton] at m
      omega
    · have m : c ∈ [43] := m
      rw [List.mem_singleton] at m
      omega
    · have m : c ∈ [45] := m
      rw [List.mem_singleton] at m
      omega
  refine seq_step fun M hM => ?_
  walk_at "n"
  refine hM _ _ ?_
  refine seq_step fun M hM => ?_
  walk_at "n"
  refine sl_head (k := 1) hl ?_
  walk_at "n"
  rw [txt_minus]
  rw [show decide (txt ((sg ++ rest).take 1) = txt [45]) = decide (sg = [45]) from decide_eq_decide.mpr (txt_inj.trans e1)]
  refine hM _ _ ?_
  refine seq_step fun M hM => ?_
  walk_at "n"
  refine sl_head (k := 1) hl ?_
  walk_at "n"
  refine ⟨by decide, in_pm le ?_⟩
  rw [show decide ((sg ++ rest).take 1 = [45] ∨ (sg ++ rest).take 1 = [43]) = decide (sg ≠ []) from decide_eq_decide.mpr (by
    rw [e1, e2]
    rcases hsg with rfl | rfl | rfl <;> simp)]
  walk_at "n"
  have e3 : (if decide (sg ≠ []) = true then (1 : Int) else 0) = (sg.length : Int) := by
    rcases hsg with rfl | rfl | rfl <;> simp
  have e4 : (if decide (sg = [45]) = true then (1 : Int) else 0) = (if sg = [45] then 1 else 0) := by
    by_cases z : sg = [45]
    · rw [if_pos z, if_pos (decide_eq_true z)]
    · rw [if_neg z, if_neg (by rw [decide_eq_false z]; exact Bool.false_ne_true)]
  rw [e3, e4]
  clear e3 e4 e1 e2 le
  refine hM _ _ ?_
  generalize hsi : (if sg = [45] then (1 : Int) else 0) = s at *
  have L := hl
  rw [List.length_append] at L
  have ea : (sg ++ rest)[sg.length]? = some c0 := by
    rw [er]
    exact at_app
  refine seq_step fun M hM => ?_
  walk_at "n"
  refine sl_one ea (by omega) (by omega) hl ?_
  walk_at "n"
  rcases hn with ⟨rfl, rfl⟩ | hn
  · injection er with er
    subst er
    rw [decide_eq_true (show txt [105] = Str.ofString "i" by decide +kernel)]
    walk_at "n"
    refine seq_step fun M2 hM2 => ?_
    walk_at "n"
    rw [show (D.str "inf") = .str (txt [105, 110, 102]) from congrArg D.str txt_inf]
    refine ⟨sg, [105, 110, 102], rfl, hl, ?_⟩
    refine hM2 _ _ ?_
    walk_at "n"
    exact ⟨by decide, q⟩
  rw [decide_eq_false (show ¬ txt [c0] = Str.ofString "i" from fun z => by
    have z := txt_inj.mp (z.trans (show Str.ofString "i" = txt [105] by decide +kernel))
    injection z with z
    rcases hn with ⟨sh, pw, dg, b, k, rfl, _⟩ | ⟨sh, tail, dg, b, k, rfl, s, _⟩
    · injection er with er
      omega
    · obtain ⟨c, t, rfl, hc, _⟩ := s.front
      injection er with er
      subst er
      rcases hc with hc | rfl
      · have := decL_rng hc
        omega
      · omega)]
  walk_at "n"
  refine hM _ _ ?_
  refine seq_step fun M hM => ?_
  walk_at "n"
  refine sl_txt (k := 2) rfl (by omega) hl ?_
  walk_at "n"
  have e0x : Str.ofString "0x" = txt [48, 120] := by decide +kernel
  rw [e0x]
  rcases hn with ⟨sh, pw, dg, b, k, rfl, hs, hp, rfl⟩ | ⟨sh, tail, dg, b, k, rfl, hs, ht, rfl⟩
  · rw [decide_eq_true (show txt ((48 :: 120 :: (sh ++ 112 :: pw)).take 2) = txt [48, 120] from rfl)]
    walk_at "n"
    refine ⟨sg ++ [48, 120], sh, pw, dg, b, k, ?_, hs, hp, ?_, ?_⟩
    · rw [List.append_assoc, List.length_append]
      rfl
    · rw [List.append_assoc]
      exact hl
    · walk_at "n"
      exact ⟨by decide, q⟩
  · have no : ¬ txt ((sh ++ tail).take 2) = txt [48, 120] := fun z => by
      have z := txt_inj.mp z
      obtain ⟨c, t, rfl, hc, ht2⟩ := hs.front
      cases t with
      | nil =>
        rcases ht with ⟨rfl, _⟩ | ⟨pw, rfl, _⟩
        · cases z
        · injection z with _ z
          injection z with z
          omega
      | cons x t =>
        injection z with _ z
        injection z with z
        rcases ht2 x (List.mem_cons_self ..) with h | h
        · have := decL_rng h
          omega
        · omega
    rw [decide_eq_false no]
    walk_at "n"
    refine hM _ _ ?_
    walk_at "n"
    refine .inl ⟨sg, sh, tail, dg, b, k, rfl, hs, ht, hl, ?_⟩
    walk_at "n"
    exact ⟨by decide, q⟩
theorem at_parse_text (T : Txt K mg) (B : BaseT K mg base) (KX : K.In base) (PS : Sup P mf) (A_scan_word : FnAt P w K mg base 2 "scan_word" ["text", "at", "word"] sp_scan_word) (A_scan_hex : FnAt P w K mg base 3 "scan_hex" ["text", "at"] sp_scan_hex) (A_scan_decimal : FnAt P w K mg base 3 "scan_decimal" ["text", "at"] sp_scan_decimal) : FnAt P w K mg base 4 "parse_text" ["value"] sp_parse_text :=
  fn_at (c := c_parse_text) T.d_parse_text sc_parse_text (fun f cdv A outer s H E hr => by
    have nd := sc_parse_text.nd
    exact (css_cons (cs_if (ct_not (ct_e (ce_isi (n := "str") (by decide) T.n_isinstance T.n_str (CE.bo (ce_v 0)))))
    (css_one (cs_raiseC hr T.x_BadText PS T.n_super ce_n))
    css_nil)
    (css_cons (cs_set nd (ce_bt bt_int T.n_int (cba_cons (CE.bo (ce_cmp (op_eqDD hr.g.units) (CE.bo (ce_sl (CE.bo (ce_v 0)) co_none (co_some ce_i))) (CE.bo ce_s))) cba_nil)))
    (css_cons (cs_set nd (ce_bt bt_int T.n_int (cba_cons (CE.bo (ce_cmp (op_inDD hr.g) (CE.bo (ce_sl (CE.bo (ce_v 0)) co_none (co_some ce_i))) (CE.bo (ce_tup (ca_cons ce_s (ca_cons ce_s ca_nil)))))) cba_nil)))
    (css_cons (cs_if (ct_cmp (op_eqDD hr.g.units) (CE.bo (ce_sl (CE.bo (ce_v 0)) (co_some (ce_v 2)) (co_some (ce_op op_addD (CE.bo (ce_v 2)) (CE.bo ce_i))))) (CE.bo ce_s))
    (css_cons (cs_expr (ce_f A_scan_word hr (ca_cons (ce_v 0) (ca_cons (ce_v 2) (ca_cons ce_s ca_nil)))))
    (css_one (cs_ret (CE.bo (ce_tup (ca_cons (ce_v 1) (ca_cons ce_s ca_nil)))))))
    css_nil)
    (css_cons (cs_if (ct_cmp (op_eqDD hr.g.units) (CE.bo (ce_sl (CE.bo (ce_v 0)) (co_some (ce_v 2)) (co_some (ce_op op_addD (CE.bo (ce_v 2)) (CE.bo ce_i))))) (CE.bo ce_s))
    (css_one (cs_ret (CE.bo (ce_tup (ca_cons (ce_v 1) (ca_star (ce_f A_scan_hex hr (ca_cons (ce_v 0) (ca_cons (ce_op op_addD (CE.bo (ce_v 2)) (CE.bo ce_i)) ca_nil))) ca_nil))))))
    css_nil)
    (css_one (cs_ret (CE.bo (ce_tup (ca_cons (ce_v 1) (ca_star (ce_f A_scan_decimal hr (ca_cons (ce_v 0) (ca_cons (ce_v 2) ca_nil))) ca_nil))))))))))))
    (fun ds hc Q E h => len_parse_text h) (fun ds hc Q E h => pure_parse_text h) (fun _ _ _ _ _ _ us hl => match us, hl with | [_], _ => rfl)
abbrev N_half_of : List Str := ["form"]
def c_half_of : CSx :=
  (cRet (cOp shlD (cC (.int 1)) (cOp subD (cOp ixD (cV 0) (cC (.int 0))) (cC (.int 1)))))
def sp_half_of : Spc := fun ds hc Q _ => ∃ (p : Int) (x y : D), ds = [.tup [.int p, x, y]] ∧ 1 ≤ p ∧ p ≤ 128 ∧ Q (.int (halfI p)) hc
theorem len_half_of {ds : List D} {hc : CH} {Q E} (h : sp_half_of ds hc Q E) : ds.length = 1 := by
  obtain ⟨p, x, y, rfl, _⟩ := h
  rfl
theorem pure_half_of {ds : List D} {hc : CH} {Q : D → CH → Prop} {E} (h : sp_half_of ds hc Q E) : c_half_of { nx := fun _ hc' => Q .non hc', rt := Q, xp := fun x _ hc' => E x hc' } (startC N_half_of ds) hc := by
  obtain ⟨p, x, y, rfl, p0, p1, k⟩ := h
  unfold c_half_of N_half_of
  walk_at "n"
  refine ⟨shlOk (a := 1) (b := 128) (by decide) (by omega) (by omega) (by decide), ?_⟩
  rw [Int.one_mul]
  exact k
theorem at_half_of (T : Txt K mg) (B : BaseT K mg base) (KX : K.In base) (PS : Sup P mf)  : FnAt P w K mg base 1 "half_of" ["form"] sp_half_of :=
  fn_at (c := c_half_of) T.d_half_of sc_half_of (fun f cdv A outer s H E hr => by
    have nd := sc_half_of.nd
    exact (css_one (cs_ret (CE.bo (ce_op op_shlD (CE.bo ce_i) (CE.bo (ce_op op_subD (CE.bo (ce_ix (CE.bo (ce_v 0)) ce_i)) (CE.bo ce_i))))))))
    (fun ds hc Q E h => len_half_of h) (fun ds hc Q E h => pure_half_of h) (fun _ _ _ _ _ _ us hl => match us, hl with | [_], _ => rfl)
abbrev N_count_of : List Str := ["form", "precision", "low", "high"]
def c_count_of : CSx :=
  (cSeq (cAsg (cV 0) (gUn 3 (gCons' (gN 1) (gCons' (gN 2) (gCons' (gN 3) gNil')))))
    (cRet (cOp mulD (cOp addD (cOp subD (cV 3) (cV 2)) (cC (.int 2))) (cCall sp_half_of (cCons (cV 0) cNil)))))
def sp_count_of : Spc := fun ds hc Q _ => ∃ (p l h : Int), ds = [fmD p l h] ∧ Fm p l h ∧ Q (.int (cntI p l h)) hc
theorem len_count_of {ds : List D} {hc : CH} {Q E} (h : sp_count_of ds hc Q E) : ds.length = 1 := by
  obtain ⟨p, x, y, rfl, _⟩ := h
  rfl
theorem pure_count_of {ds : List D} {hc : CH} {Q : D → CH → Prop} {E} (h : sp_count_of ds hc Q E) : c_count_of { nx := fun _ hc' => Q .non hc', rt := Q, xp := fun x _ hc' => E x hc' } (startC N_count_of ds) hc := by
  obtain ⟨p, l, h, rfl, f, k⟩ := h
  unfold c_count_of N_count_of
  refine seq_step fun M hM => ?_
  walk_at "n"
  refine hM _ _ ?_
  walk_at "n"
  refine ⟨p, _, _, rfl, f.p0, f.p1, mulOk_l ⟨by have := f.lh; have := f.l0; have := f.h1; omega, by have := f.lh; have := f.l0; have := f.h1; omega⟩, ?_⟩
  exact k
theorem at_count_of (T : Txt K mg) (B : BaseT K mg base) (KX : K.In base) (PS : Sup P mf) (A_half_of : FnAt P w K mg base 1 "half_of" ["form"] sp_half_of) : FnAt P w K mg base 2 "count_of" ["form"] sp_count_of :=
  fn_at (c := c_count_of) T.d_count_of sc_count_of (fun f cdv A outer s H E hr => by
    have nd := sc_count_of.nd
    exact (css_cons (cs_asg (ce_v 0) (cg_u rfl (cgs_cons (cg_n 1 nd) (cgs_cons (cg_n 2 nd) (cgs_cons (cg_n 3 nd) cgs_nil)))))
    (css_one (cs_ret (CE.bo (ce_op op_mulD (CE.bo (ce_op op_addD (CE.bo (ce_op op_subD (CE.bo (ce_v 3)) (CE.bo (ce_v 2)))) (CE.bo ce_i))) (CE.bo (ce_f A_half_of hr (ca_cons (ce_v 0) ca_nil)))))))))
    (fun ds hc Q E h => len_count_of h) (fun ds hc Q E h => pure_count_of h) (fun _ _ _ _ _ _ us hl => match us, hl with | [_], _ => rfl)
abbrev N_ten : List Str := ["power", "found", "base", "left"]
def c_ten : CSx :=
  (cSeq (cPar3 1 2 3 (cCons (cC (.int 1)) (cCons (cC (.int 10)) (cCons (cV 0) cNil))))
    (cSeq (cWhile (cT (cOp gtD (cV 3) (cC (.int 0))))
    (cSeq (cIfS (cT (cOp eqD (cOp modD (cV 3) (cC (.int 2))) (cC (.int 1))))
    (cAsg (cOp mulD (cV 1) (cV 2)) (gN 1))
    cNext)
    (cPar 2 3 (cCons (cOp mulD (cV 2) (cV 2)) (cCons (cOp fdivD (cV 3) (cC (.int 2))) cNil)))))
    (cRet (cV 1))))
def sp_ten : Spc := fun ds hc Q _ => ∃ p : Int, ds = [.int p] ∧ 0 ≤ p ∧ p ≤ 1000000 ∧ Q (.int (10 ^ p.toNat)) hc
theorem len_ten {ds : List D} {hc : CH} {Q E} (h : sp_ten ds hc Q E) : ds.length = 1 := by
  obtain ⟨p, rfl, _⟩ := h
  rfl
theorem ten_bits (f : Nat) : ((10 : Int) ^ f).natAbs < 2 ^ (4 * f + 1) := by
  rw [Int.natAbs_pow]
  have h1 : (10 : Nat) ^ f ≤ 16 ^ f := Nat.pow_le_pow_left (by decide) f
  have h2 : (16 : Nat) ^ f = 2 ^ (4 * f) := by rw [show (16 : Nat) = 2 ^ 4 from rfl, ← Nat.pow_mul]
  have h3 : (2 : Nat) ^ (4 * f) < 2 ^ (4 * f + 1) := Nat.pow_lt_pow_right (by decide) (by omega)
  show (10 : Nat) ^ f < _
  omega
theorem ten_mul {f e : Nat} (hf : f ≤ 1000000) (he : e ≤ 1000000) : MulOk (10 ^ f) (10 ^ e) := mulOk (4 * f + 1) (4 * e + 1) (ten_bits f) (ten_bits e) (by omega)
theorem pure_ten {ds : List D} {hc : CH} {Q : D → CH → Prop} {E} (h : sp_ten ds hc Q E) : c_ten { nx := fun _ hc' => Q .non hc', rt := Q, xp := fun x _ hc' => E x hc' } (startC N_ten ds) hc := by
  obtain ⟨p, rfl, p0, p1, q⟩ := h
  unfold c_ten N_ten
  refine seq_step fun M hM => ?_
  walk_at "n"
  refine hM _ _ ?_
  refine seq_step fun M hM => ?_
  refine wh_inv (fun m sc h => h = hc ∧ ∃ f e : Nat, f + e * m = p.toNat ∧ sc = [.val (.int p), .val (.int (10 ^ f)), .val (.int (10 ^ e)), .val (.int m)]) (fun m sc h Nx I nx => ?_) (m := p.toNat) ⟨rfl, 0, 1, by omega, by rw [show ((p.toNat : Nat) : Int) = p by omega]; rfl⟩
  obtain ⟨rfl, f, e, hfe, rfl⟩ := I
  walk_at "n"
  by_cases hm : 0 < m
  · have he : e ≤ e * m := Nat.le_mul_of_pos_right e hm
    have hm' : (0 : Int) < (m : Int) := by omega
    rw [if_pos (decide_eq_true hm')]
    have e2 : 10 ^ e * (10 : Int) ^ e = 10 ^ (e + e) := by rw [Int.pow_add]
    have d2 : ((m : Int) / 2) = ((m / 2 : Nat) : Int) := by omega
    have back : ∀ f2, f2 + (e + e) * (m / 2) = p.toNat → Nx [.val (.int p), .val (.int (10 ^ f2)), .val (.int (10 ^ (e + e))), .val (.int ((m / 2 : Nat) : Int))] h := fun f2 h2 => nx (m / 2) _ _ (by omega) ⟨rfl, f2, e + e, h2, rfl⟩
    refine seq_step fun M2 hM2 => ?_
    walk_at "n"
    refine ⟨by decide, ?_⟩
    have dm := Nat.div_add_mod m 2
    have ee : (e + e) * (m / 2) = e * (2 * (m / 2)) := by rw [← Nat.two_mul, Nat.mul_comm 2 e, Nat.mul_assoc]
    by_cases odd : (m : Int) % 2 = 1
    · rw [if_pos (decide_eq_true odd)]
      refine ⟨ten_mul (by omega) (by omega), hM2 _ _ ?_⟩
      walk_at "n"
      refine ⟨ten_mul (by omega) (by omega), divOk 2 (by decide) (by decide) (by decide), ?_⟩
      rw [e2, d2, ← Int.pow_add]
      refine back (f + e) ?_
      have : m = 2 * (m / 2) + 1 := by omega
      rw [this, Nat.mul_add] at hfe
      omega
    · rw [if_neg (by rw [decide_eq_false odd]; exact Bool.false_ne_true)]
      refine hM2 _ _ ?_
      walk_at "n"
      refine ⟨ten_mul (by omega) (by omega), divOk 2 (by decide) (by decide) (by decide), ?_⟩
      rw [e2, d2]
      refine back f ?_
      have : m = 2 * (m / 2) := by omega
      rw [this] at hfe
      omega
  · rw [if_neg (by rw [decide_eq_false (by omega)]; exact Bool.false_ne_true)]
    refine hM _ _ ?_
    walk_at "n"
    obtain rfl : m = 0 := by omega
    rw [Nat.mul_zero, Nat.add_zero] at hfe
    rw [hfe]
    exact q
theorem at_ten (T : Txt K mg) (B : BaseT K mg base) (KX : K.In base) (PS : Sup P mf)  : FnAt P w K mg base 1 "ten" ["power"] sp_ten :=
  fn_at (c := c_ten) T.d_ten sc_ten (fun f cdv A outer s H E hr => by
    have nd := sc_ten.nd
    exact (css_cons (cs_par3 rfl nd (ca_cons ce_i (ca_cons ce_i (ca_cons (ce_v 0) ca_nil))))
    (css_cons (cs_while hr.p (ct_cmp op_gtD (CE.bo (ce_v 3)) (CE.bo ce_i))
    (css_cons (cs_if (ct_cmp (op_eqDD hr.g.units) (CE.bo (ce_op op_modD (CE.bo (ce_v 3)) (CE.bo ce_i))) (CE.bo ce_i))
    (css_one (cs_set nd (ce_op op_mulD (CE.bo (ce_v 1)) (CE.bo (ce_v 2)))))
    css_nil)
    (css_one (cs_par rfl nd (ca_cons (ce_op op_mulD (CE.bo (ce_v 2)) (CE.bo (ce_v 2))) (ca_cons (ce_op op_fdivD (CE.bo (ce_v 3)) (CE.bo ce_i)) ca_nil))))))
    (css_one (cs_ret (CE.bo (ce_v 1)))))))
    (fun ds hc Q E h => len_ten h) (fun ds hc Q E h => pure_ten h) (fun _ _ _ _ _ _ us hl => match us, hl with | [_], _ => rfl)
abbrev N_fraction_of : List Str := ["decimal", "digits", "power"]
def c_fraction_of : CSx :=
  (cSeq (cAsg (cV 0) (gUn 2 (gCons' (gN 1) (gCons' (gN 2) gNil'))))
    (cRet (cIf (cT (cOp geD (cV 2) (cC (.int 0)))) (cTup (cCons (cOp mulD (cV 1) (cCall sp_ten (cCons (cV 2) cNil))) (cCons (cC (.int 1)) cNil))) (cTup (cCons (cV 1) (cCons (cCall sp_ten (cCons (cUn negD (cV 2)) cNil)) cNil))))))
def sp_fraction_of : Spc := fun ds hc Q _ => ∃ (d q : Int), ds = [.tup [.int d, .int q]] ∧ d.natAbs < 2 ^ 100000 ∧ q.natAbs ≤ 100000 ∧ Q (.tup [.int (d * P10 q), .int (P10 (-q))]) hc
theorem len_fraction_of {ds : List D} {hc : CH} {Q E} (h : sp_fraction_of ds hc Q E) : ds.length = 1 := by
  obtain ⟨p, l, rfl, _⟩ := h
  rfl
theorem pure_fraction_of {ds : List D} {hc : CH} {Q : D → CH → Prop} {E} (h : sp_fraction_of ds hc Q E) : c_fraction_of { nx := fun _ hc' => Q .non hc', rt := Q, xp := fun x _ hc' => E x hc' } (startC N_fraction_of ds) hc := by
  obtain ⟨d, q, rfl, hd, hq, k⟩ := h
  unfold c_fraction_of N_fraction_of
  refine seq_step fun M hM => ?_
  walk_at "n"
  refine hM _ _ ?_
  walk_at "n"
  refine ite2 (fun z => ?_) (fun z => ?_)
  · have z := of_decide_eq_true z
    rw [P10_nn (show -q ≤ 0 by omega)] at k
    exact ⟨q, rfl, z, by omega, mulOk 100000 400001 hd (P10_bits q 100000 (by omega)) (by decide), by decide, k⟩
  · have z : ¬ 0 ≤ q := fun c => z (decide_eq_true c)
    rw [P10_nn (show q ≤ 0 by omega), Int.mul_one] at k
    exact ⟨-q, rfl, by omega, by omega, by decide, k⟩
theorem at_fraction_of (T : Txt K mg) (B : BaseT K mg base) (KX : K.In base) (PS : Sup P mf) (A_ten : FnAt P w K mg base 1 "ten" ["power"] sp_ten) : FnAt P w K mg base 2 "fraction_of" ["decimal"] sp_fraction_of :=
  fn_at (c := c_fraction_of) T.d_fraction_of sc_fraction_of (fun f cdv A outer s H E hr => by
    have nd := sc_fraction_of.nd
    exact (css_cons (cs_asg (ce_v 0) (cg_u rfl (cgs_cons (cg_n 1 nd) (cgs_cons (cg_n 2 nd) cgs_nil))))
    (css_one (cs_ret (CE.bo (ce_if (ct_cmp op_geD (CE.bo (ce_v 2)) (CE.bo ce_i)) (ce_tup (ca_cons (ce_op op_mulD (CE.bo (ce_v 1)) (CE.bo (ce_f A_ten hr (ca_cons (ce_v 2) ca_nil)))) (ca_cons ce_i ca_nil))) (ce_tup (ca_cons (ce_v 1) (ca_cons (ce_f A_ten hr (ca_cons (ce_un un_negD (CE.bo (ce_v 2))) ca_nil)) ca_nil)))))))))
    (fun ds hc Q E h => len_fraction_of h) (fun ds hc Q E h => pure_fraction_of h) (fun _ _ _ _ _ _ us hl => match us, hl with | [_], _ => rfl)
abbrev N_is_below : List Str := ["num", "den", "power"]
def c_is_below : CSx :=
  (cRet (cIf (cT (cOp geD (cV 2) (cC (.int 0)))) (cOp ltD (cV 0) (cOp shlD (cV 1) (cV 2))) (cOp ltD (cOp shlD (cV 0) (cUn negD (cV 2))) (cV 1))))
def sp_is_below : Spc := fun ds hc Q _ => ∃ (n d s : Int) (a : Nat), ds = [.int n, .int d, .int s] ∧ n.natAbs < 2 ^ a ∧ d.natAbs < 2 ^ a ∧ a ≤ 1000000 ∧ s.natAbs ≤ 1000000 ∧ Q (.bl (decide (n * P2 (-s) < d * P2 s))) hc
theorem len_is_below {ds : List D} {hc : CH} {Q E} (h : sp_is_below ds hc Q E) : ds.length = 3 := by
  obtain ⟨n, d, s, a, rfl, _⟩ := h
  rfl
theorem pure_is_below {ds : List D} {hc : CH} {Q : D → CH → Prop} {E} (h : sp_is_below ds hc Q E) : c_is_below { nx := fun _ hc' => Q .non hc', rt := Q, xp := fun x _ hc' => E x hc' } (startC N_is_below ds) hc := by
  obtain ⟨n, d, s, a, rfl, hn, hd, ha, hs, k⟩ := h
  unfold c_is_below N_is_below
  walk_at "n"
  refine ite2 (fun h => ?_) (fun h => ?_)
  · have h := of_decide_eq_true h
    rw [P2_nn (show -s ≤ 0 by omega), Int.mul_one] at k
    exact ⟨shlOk hd h (show s ≤ (1000000 : Nat) by omega) (by omega), k⟩
  · have h : ¬ 0 ≤ s := fun z => h (decide_eq_true z)
    rw [P2_nn (show s ≤ 0 by omega), Int.mul_one] at k
    exact ⟨shlOk hn (by omega) (show -s ≤ (1000000 : Nat) by omega) (by omega), k⟩
theorem at_is_below (T : Txt K mg) (B : BaseT K mg base) (KX : K.In base) (PS : Sup P mf)  : FnAt P w K mg base 1 "is_below" ["num", "den", "power"] sp_is_below :=
  fn_at (c := c_is_below) T.d_is_below sc_is_below (fun f cdv A outer s H E hr => by
    have nd := sc_is_below.nd
    exact (css_one (cs_ret (CE.bo (ce_if (ct_cmp op_geD (CE.bo (ce_v 2)) (CE.bo ce_i)) (ce_cmp op_ltD (CE.bo (ce_v 0)) (CE.bo (ce_op op_shlD (CE.bo (ce_v 1)) (CE.bo (ce_v 2))))) (ce_cmp op_ltD (CE.bo (ce_op op_shlD (CE.bo (ce_v 0)) (CE.bo (ce_un un_negD (CE.bo (ce_v 2)))))) (CE.bo (ce_v 1))))))))
    (fun ds hc Q E h => len_is_below h) (fun ds hc Q E h => pure_is_below h) (fun _ _ _ _ _ _ us hl => match us, hl with | [_, _, _], _ => rfl)
abbrev N_exponent_at : List Str := ["form", "num", "den", "precision", "low", "high", "power"]
def c_exponent_at : CSx :=
  (cSeq (cAsg (cV 0) (gUn 3 (gCons' (gN 3) (gCons' (gN 4) (gCons' (gN 5) gNil')))))
    (cSeq (cIfS (cT (cCall sp_is_below (cCons (cV 1) (cCons (cV 2) (cCons (cOp addD (cV 3) (cV 4)) cNil)))))
    (cRet (cV 4))
    cNext)
    (cSeq (cIfS (cNot (cT (cCall sp_is_below (cCons (cV 1) (cCons (cV 2) (cCons (cOp addD (cV 3) (cV 5)) cNil))))))
    (cRet (cV 5))
    cNext)
    (cSeq (cAsg (cOp subD (cUn bitsD (cV 1)) (cUn bitsD (cV 2))) (gN 6))
    (cRet (cOp addD (cOp subD (cV 6) (cV 3)) (cFn intFD (cCons (cNotV (cCall sp_is_below (cCons (cV 1) (cCons (cV 2) (cCons (cV 6) cNil))))) cNil))))))))
def sp_exponent_at : Spc := fun ds hc Q _ => ∃ (p l h n d : Int) (a : Nat), ds = [fmD p l h, .int n, .int d] ∧ Fm p l h ∧ 0 ≤ n ∧ 0 < d ∧ n.natAbs < 2 ^ a ∧ d.natAbs < 2 ^ a ∧ a ≤ 900000 ∧ ∀ e, ExpAt p l h n d e → Q (.int e) hc
theorem len_exponent_at {ds : List D} {hc : CH} {Q E} (h : sp_exponent_at ds hc Q E) : ds.length = 3 := by
  obtain ⟨p, l, h, n, d, a, rfl, _⟩ := h
  rfl
theorem below_not {n d s : Int} (h : n * P2 (-s) < d * P2 s) : ¬ AtM n d s := by
  unfold AtM
  omega
theorem not_below {n d s : Int} (h : ¬ n * P2 (-s) < d * P2 s) : AtM n d s := by
  unfold AtM
  omega
theorem pure_exponent_at {ds : List D} {hc : CH} {Q : D → CH → Prop} {E} (h : sp_exponent_at ds hc Q E) : c_exponent_at { nx := fun _ hc' => Q .non hc', rt := Q, xp := fun x _ hc' => E x hc' } (startC N_exponent_at ds) hc := by
  obtain ⟨p, l, h, n, d, a, rfl, f, n0, d0, hn, hd, ha, k⟩ := h
  have p0 := f.p0
  have p1 := f.p1
  have l0 := f.l0
  have lh := f.lh
  have h1 := f.h1
  have b1 := intBits_le hn
  have b2 := intBits_le hd
  unfold c_exponent_at N_exponent_at
  refine seq_step fun M hM => ?_
  walk_at "n"
  refine hM _ _ ?_
  refine seq_step fun M hM => ?_
  walk_at "n"
  refine ⟨n, d, _, a, rfl, hn, hd, by omega, by omega, ?_⟩
  walk_at "n"
  refine ite2 (fun z => ?_) (fun z => ?_)
  · exact k _ ⟨Int.le_refl _, lh, fun _ => below_not (of_decide_eq_true z), fun c => absurd c (Int.lt_irrefl _)⟩
  have z := not_below fun c => z (decide_eq_true c)
  refine hM _ _ ?_
  refine seq_step fun M hM => ?_
  walk_at "n"
  refine ⟨n, d, _, a, rfl, hn, hd, by omega, by omega, ?_⟩
  walk_at "n"
  refine ite2 (fun y => ?_) (fun y => ?_)
  · have y := not_below (fun c => by rw [decide_eq_true c] at y; exact Bool.false_ne_true y : ¬ n * P2 (-(p + h)) < d * P2 (p + h))
    exact k _ ⟨lh, Int.le_refl _, fun c => absurd c (Int.lt_irrefl _), fun _ => y.down d0 (by omega)⟩
  · have y : n * P2 (-(p + h)) < d * P2 (p + h) := Decidable.byContradiction fun c => y (by rw [decide_eq_false c]; rfl)
    have y := below_not y
    have np : 0 < n := by
      rcases Int.lt_or_eq_of_le n0 with g | rfl
      · exact g
      · have := Int.mul_pos d0 (P2_pos (p + l))
        unfold AtM at z
        rw [Int.zero_mul] at z
        omega
    refine hM _ _ ?_
    refine seq_step fun M hM => ?_
    walk_at "n"
    refine hM _ _ ?_
    obtain ⟨f1, f2⟩ := FL_of np d0 _ rfl
    revert f1 f2
    generalize ht : ((Builtin.Int.intBits n : Nat) : Int) - ((Builtin.Int.intBits d : Nat) : Int) = t
    intro f1 f2
    have fin : ∀ s, FL n d s → Q (.int (s + 1 - p)) hc := fun s g => k _ ⟨by
      have : ¬ s + 1 ≤ p + l := fun c => g.2 (z.down d0 c)
      omega, by
      have : ¬ p + h ≤ s := fun c => y (g.1.down d0 c)
      omega, fun _ => by rw [show p + (s + 1 - p) = s + 1 by omega]; exact g.2, fun _ => by rw [show p + (s + 1 - p) - 1 = s by omega]; exact g.1⟩
    walk_at "n"
    refine ⟨n, d, t, a, rfl, hn, hd, by omega, by omega, ?_⟩
    walk_at "n"
    by_cases c : n * P2 (-t) < d * P2 t
    · have g := fin _ (f2 (below_not c))
      rw [decide_eq_true c]
      rw [show t - 1 + 1 - p = t - p + 0 by omega] at g
      exact g
    · have g := fin _ (f1 (not_below c))
      rw [decide_eq_false c]
      rw [show t + 1 - p = t - p + 1 by omega] at g
      exact g
theorem at_exponent_at (T : Txt K mg) (B : BaseT K mg base) (KX : K.In base) (PS : Sup P mf) (A_is_below : FnAt P w K mg base 1 "is_below" ["num", "den", "power"] sp_is_below) : FnAt P w K mg base 2 "exponent_at" ["form", "num", "den"] sp_exponent_at :=
  fn_at (c := c_exponent_at) T.d_exponent_at sc_exponent_at (fun f cdv A outer s H E hr => by
    have nd := sc_exponent_at.nd
    exact (css_cons (cs_asg (ce_v 0) (cg_u rfl (cgs_cons (cg_n 3 nd) (cgs_cons (cg_n 4 nd) (cgs_cons (cg_n 5 nd) cgs_nil)))))
    (css_cons (cs_if (ct_e (ce_f A_is_below hr (ca_cons (ce_v 1) (ca_cons (ce_v 2) (ca_cons (ce_op op_addD (CE.bo (ce_v 3)) (CE.bo (ce_v 4))) ca_nil)))))
    (css_one (cs_ret (CE.bo (ce_v 4))))
    css_nil)
    (css_cons (cs_if (ct_not (ct_e (ce_f A_is_below hr (ca_cons (ce_v 1) (ca_cons (ce_v 2) (ca_cons (ce_op op_addD (CE.bo (ce_v 3)) (CE.bo (ce_v 5))) ca_nil))))))
    (css_one (cs_ret (CE.bo (ce_v 5))))
    css_nil)
    (css_cons (cs_set nd (ce_op op_subD (CE.bo (ce_bits (CE.bo (ce_v 1)))) (CE.bo (ce_bits (CE.bo (ce_v 2))))))
    (css_one (cs_ret (CE.bo (ce_op op_addD (CE.bo (ce_op op_subD (CE.bo (ce_v 6)) (CE.bo (ce_v 3)))) (CE.bo (ce_bt bt_int T.n_int (cba_cons (CE.bo (ce_not (ce_f A_is_below hr (ca_cons (ce_v 1) (ca_cons (ce_v 2) (ca_cons (ce_v 6) ca_nil)))))) cba_nil))))))))))))
    (fun ds hc Q E h => len_exponent_at h) (fun ds hc Q E h => pure_exponent_at h) (fun _ _ _ _ _ _ us hl => match us, hl with | [_, _, _], _ => rfl)
abbrev N_position_at : List Str := ["form", "num", "den", "exponent", "part", "whole"]
def c_position_at : CSx :=
  (cSeq (cAsg (cCall sp_exponent_at (cCons (cV 0) (cCons (cV 1) (cCons (cV 2) cNil)))) (gN 3))
    (cSeq (cIfS (cT (cOp geD (cV 3) (cC (.int 0))))
    (cPar 4 5 (cCons (cV 1) (cCons (cOp shlD (cV 2) (cV 3)) cNil)))
    (cPar 4 5 (cCons (cOp shlD (cV 1) (cUn negD (cV 3))) (cCons (cV 2) cNil))))
    (cRet (cTup (cCons (cOp addD (cOp mulD (cOp mulD (cOp subD (cV 3) (cOp ixD (cV 0) (cC (.int 1)))) (cCall sp_half_of (cCons (cV 0) cNil))) (cV 5)) (cV 4)) (cCons (cV 5) cNil))))))
def sp_position_at : Spc := fun ds hc Q _ => ∃ (p l h n d : Int) (a : Nat), ds = [fmD p l h, .int n, .int d] ∧ Fm p l h ∧ 0 ≤ n ∧ 0 < d ∧ n.natAbs < 2 ^ a ∧ d.natAbs < 2 ^ a ∧ a ≤ 900000 ∧ ∀ e, ExpAt p l h n d e → Q (.tup [.int (posN p l n d e), .int (posW d e)]) hc
theorem len_position_at {ds : List D} {hc : CH} {Q E} (h : sp_position_at ds hc Q E) : ds.length = 3 := by
  obtain ⟨p, l, h, n, d, a, rfl, _⟩ := h
  rfl
theorem pure_position_at {ds : List D} {hc : CH} {Q : D → CH → Prop} {E} (h : sp_position_at ds hc Q E) : c_position_at { nx := fun _ hc' => Q .non hc', rt := Q, xp := fun x _ hc' => E x hc' } (startC N_position_at ds) hc := by
  obtain ⟨p, l, h, n, d, a, rfl, f, n0, d0, hn, hd, ha, k⟩ := h
  have p0 := f.p0
  have p1 := f.p1
  have l0 := f.l0
  have lh := f.lh
  have h1 := f.h1
  unfold c_position_at N_position_at
  refine seq_step fun M hM => ?_
  walk_at "n"
  refine ⟨p, l, h, n, d, a, rfl, f, n0, d0, hn, hd, ha, fun e ex => hM _ _ ?_⟩
  have e0 := ex.lo
  have e1 := ex.hi
  have k := k e ex
  have Wb : (d * P2 e).natAbs < 2 ^ (a + 1201) := mul_pow hd (P2_bits e 1200 (by omega))
  have Nb : (n * P2 (-e)).natAbs < 2 ^ (a + 1201) := mul_pow hn (P2_bits (-e) 1200 (by omega))
  have m1 : Mn.MulOk (e - l) (halfI p) := mulOk_l ⟨by omega, by omega⟩
  have m2 : Mn.MulOk ((e - l) * halfI p) (d * P2 e) := mulOk 140 (a + 1201) (mul_pow (k := 12) (l := 128) (by omega) (halfI_bits p1)) Wb (by omega)
  refine seq_step fun M hM => ?_
  walk_at "n"
  refine ite2 (fun z => ?_) (fun z => ?_)
  · have z := of_decide_eq_true z
    refine ⟨shlOk hd z (show e ≤ (1200 : Nat) by omega) (by omega), hM _ _ ?_⟩
    walk_at "n"
    refine ⟨p, _, _, rfl, p0, p1, m1, m2, by decide, ?_⟩
    unfold posN posW at k
    rw [P2_nn (show -e ≤ 0 by omega), Int.mul_one] at k
    exact k
  · have z : ¬ 0 ≤ e := fun c => z (decide_eq_true c)
    unfold posN posW at k
    rw [P2_nn (show e ≤ 0 by omega), Int.mul_one] at k m2
    refine ⟨shlOk hn (by omega) (show -e ≤ (1200 : Nat) by omega) (by omega), hM _ _ ?_⟩
    walk_at "n"
    exact ⟨p, _, _, rfl, p0, p1, m1, m2, by decide, k⟩
theorem at_position_at (T : Txt K mg) (B : BaseT K mg base) (KX : K.In base) (PS : Sup P mf) (A_exponent_at : FnAt P w K mg base 2 "exponent_at" ["form", "num", "den"] sp_exponent_at) (A_half_of : FnAt P w K mg base 1 "half_of" ["form"] sp_half_of) : FnAt P w K mg base 3 "position_at" ["form", "num", "den"] sp_position_at :=
  fn_at (c := c_position_at) T.d_position_at sc_position_at (fun f cdv A outer s H E hr => by
    have nd := sc_position_at.nd
    exact (css_cons (cs_set nd (ce_f A_exponent_at hr (ca_cons (ce_v 0) (ca_cons (ce_v 1) (ca_cons (ce_v 2) ca_nil)))))
    (css_cons (cs_if (ct_cmp op_geD (CE.bo (ce_v 3)) (CE.bo ce_i))
    (css_one (cs_par rfl nd (ca_cons (ce_v 1) (ca_cons (ce_op op_shlD (CE.bo (ce_v 2)) (CE.bo (ce_v 3))) ca_nil))))
    (css_one (cs_par rfl nd (ca_cons (ce_op op_shlD (CE.bo (ce_v 1)) (CE.bo (ce_un un_negD (CE.bo (ce_v 3))))) (ca_cons (ce_v 2) ca_nil)))))
    (css_one (cs_ret (CE.bo (ce_tup (ca_cons (ce_op op_addD (CE.bo (ce_op op_mulD (CE.bo (ce_op op_mulD (CE.bo (ce_op op_subD (CE.bo (ce_v 3)) (CE.bo (ce_ix (CE.bo (ce_v 0)) ce_i)))) (CE.bo (ce_f A_half_of hr (ca_cons (ce_v 0) ca_nil))))) (CE.bo (ce_v 5)))) (CE.bo (ce_v 4))) (ca_cons (ce_v 5) ca_nil)))))))))
    (fun ds hc Q E h => len_position_at h) (fun ds hc Q E h => pure_position_at h) (fun _ _ _ _ _ _ us hl => match us, hl with | [_, _, _], _ => rfl)
abbrev N_nearest : List Str := ["num", "den", "below", "rest"]
def c_nearest : CSx :=
  (cSeq (cAsg (cFn divmodD (cCons (cV 0) (cCons (cV 1) cNil))) (gUn 2 (gCons' (gN 2) (gCons' (gN 3) gNil'))))
    (cRet (cOp addD (cV 2) (cFn intFD (cCons (cOrV (cOp gtD (cOp mulD (cC (.int 2)) (cV 3)) (cV 1)) (cAndV (cOp eqD (cOp mulD (cC (.int 2)) (cV 3)) (cV 1)) (cOp eqD (cOp modD (cV 2) (cC (.int 2))) (cC (.int 1))))) cNil)))))
def sp_nearest : Spc := fun ds hc Q _ => ∃ (n d : Int), ds = [.int n, .int d] ∧ DivOk n d ∧ Q (.int (nearI n d)) hc
theorem len_nearest {ds : List D} {hc : CH} {Q E} (h : sp_nearest ds hc Q E) : ds.length = 2 := by
  obtain ⟨p, l, rfl, _⟩ := h
  rfl
theorem pure_nearest {ds : List D} {hc : CH} {Q : D → CH → Prop} {E} (h : sp_nearest ds hc Q E) : c_nearest { nx := fun _ hc' => Q .non hc', rt := Q, xp := fun x _ hc' => E x hc' } (startC N_nearest ds) hc := by
  obtain ⟨n, d, rfl, dv, k⟩ := h
  unfold c_nearest N_nearest
  refine seq_step fun M hM => ?_
  walk_at "n"
  refine ⟨dv, hM _ _ ?_⟩
  walk_at "n"
  unfold nearI at k
  refine ⟨mulOk_l (by decide), ?_⟩
  by_cases a : d < 2 * (n % d)
  · rw [decide_eq_true a]
    rw [if_pos (.inl a)] at k
    exact k
  · rw [decide_eq_false a]
    refine ⟨mulOk_l (by decide), ?_⟩
    by_cases b : 2 * (n % d) = d
    · rw [decide_eq_true b]
      refine ⟨by decide, ?_⟩
      by_cases o : n / d % 2 = 1
      · rw [if_pos (.inr ⟨b, o⟩)] at k
        rw [if_pos (decide_eq_true o)]
        exact k
      · rw [if_neg fun x => x.elim a fun y => o y.2] at k
        rw [if_neg (by rw [decide_eq_false o]; exact Bool.false_ne_true)]
        exact k
    · rw [decide_eq_false b]
      rw [if_neg fun x => x.elim a fun y => b y.1] at k
      exact k
theorem at_nearest (T : Txt K mg) (B : BaseT K mg base) (KX : K.In base) (PS : Sup P mf)  : FnAt P w K mg base 1 "nearest" ["num", "den"] sp_nearest :=
  fn_at (c := c_nearest) T.d_nearest sc_nearest (fun f cdv A outer s H E hr => by
    have nd := sc_nearest.nd
    exact (css_cons (cs_asg (ce_bf bf_divmod T.n_divmod (cba_cons (CE.bo (ce_v 0)) (cba_cons (CE.bo (ce_v 1)) cba_nil))) (cg_u rfl (cgs_cons (cg_n 2 nd) (cgs_cons (cg_n 3 nd) cgs_nil))))
    (css_one (cs_ret (CE.bo (ce_op op_addD (CE.bo (ce_v 2)) (CE.bo (ce_bt bt_int T.n_int (cba_cons (CE.bo (ce_or (ce_cmp op_gtD (CE.bo (ce_op op_mulD (CE.bo ce_i) (CE.bo (ce_v 3)))) (CE.bo (ce_v 1))) (ce_one (ce_and (ce_cmp (op_eqDD hr.g.units) (CE.bo (ce_op op_mulD (CE.bo ce_i) (CE.bo (ce_v 3)))) (CE.bo (ce_v 1))) (ce_one (ce_cmp (op_eqDD hr.g.units) (CE.bo (ce_op op_modD (CE.bo (ce_v 2)) (CE.bo ce_i))) (CE.bo ce_i))))))) cba_nil)))))))))
    (fun ds hc Q E h => len_nearest h) (fun ds hc Q E h => pure_nearest h) (fun _ _ _ _ _ _ us hl => match us, hl with | [_, _], _ => rfl)
abbrev N_rounded_by : List Str := ["way", "num", "den"]
def c_rounded_by : CSx :=
  (cMatch (cV 0) [(some "even", (cRet (cCall sp_nearest (cCons (cV 1) (cCons (cV 2) cNil))))), (some "away", (cRet (cOp fdivD (cOp addD (cOp mulD (cC (.int 2)) (cV 1)) (cV 2)) (cOp mulD (cC (.int 2)) (cV 2))))), (some "zero", (cRet (cOp fdivD (cV 1) (cV 2)))), (some "out", (cRet (cUn negD (cOp fdivD (cUn negD (cV 1)) (cV 2))))), (none, (cRet (cIf (cT (cOp eqD (cOp modD (cV 1) (cV 2)) (cC (.int 0)))) (cOp fdivD (cV 1) (cV 2)) (cOp orD (cOp fdivD (cV 1) (cV 2)) (cC (.int 1))))))])
def sp_rounded_by : Spc := fun ds hc Q _ => ∃ (w : Str) (n d : Int), ds = [.str w, .int n, .int d] ∧ RdOk n d ∧ Q (.int (rndI w n d)) hc
theorem len_rounded_by {ds : List D} {hc : CH} {Q E} (h : sp_rounded_by ds hc Q E) : ds.length = 3 := by
  obtain ⟨w, n, d, rfl, _⟩ := h
  rfl
theorem two_bitsR {x : Int} {k : Nat} (h : x.natAbs < 2 ^ k) : (2 * x).natAbs < 2 ^ (k + 1) := by
  rw [Nat.pow_succ]
  omega
theorem pure_rounded_by {ds : List D} {hc : CH} {Q : D → CH → Prop} {E} (h : sp_rounded_by ds hc Q E) : c_rounded_by { nx := fun _ hc' => Q .non hc', rt := Q, xp := fun x _ hc' => E x hc' } (startC N_rounded_by ds) hc := by
  obtain ⟨w, n, d, rfl, ok, k⟩ := h
  have d0 := ok.d0
  have dv : DivOk n d := by
    rcases ok.b with b | b
    · exact divOk 8990 d0 b (by decide)
    · exact divOkX 13490 d0 b.1 (by decide)
  have dv2 : DivOk (-n) d := by
    rcases ok.b with b | b
    · exact divOk 8990 d0 b (by decide)
    · exact divOkX 13490 d0 (by rw [Int.natAbs_neg]; exact b.1) (by decide)
  have dv3 : DivOk (2 * n + d) (2 * d) := by
    rcases ok.b with b | b
    · exact divOk 8991 (by omega) (two_bitsR b) (by decide)
    · exact divOkX 13492 (by omega) (add_pow (two_bitsR b.1) (up_pow 13491 b.2)) (by decide)
  clear ok
  unfold rndI at k
  unfold c_rounded_by N_rounded_by
  walk_at "n"
  split
  · next z =>
    rw [if_pos z] at k
    exact ⟨n, d, rfl, dv, k⟩
  next z =>
  rw [if_neg z] at k
  split
  · next z =>
    rw [if_pos z] at k
    exact ⟨mulOk_l (by decide), mulOk_l (by decide), dv3, k⟩
  next z =>
  rw [if_neg z] at k
  split
  · next z =>
    rw [if_pos z] at k
    exact ⟨dv, k⟩
  next z =>
  rw [if_neg z] at k
  split
  · next z =>
    rw [if_pos z] at k
    exact ⟨dv2, k⟩
  next z =>
  rw [if_neg z] at k
  refine ⟨d0, ?_⟩
  by_cases y : n % d = 0
  · rw [if_pos y] at k
    rw [if_pos (decide_eq_true y)]
    exact ⟨dv, k⟩
  · rw [if_neg y] at k
    rw [if_neg (by rw [decide_eq_false y]; exact Bool.false_ne_true), or_one]
    exact ⟨dv, k⟩
theorem at_rounded_by (T : Txt K mg) (B : BaseT K mg base) (KX : K.In base) (PS : Sup P mf) (A_nearest : FnAt P w K mg base 1 "nearest" ["num", "den"] sp_nearest) : FnAt P w K mg base 2 "rounded_by" ["way", "num", "den"] sp_rounded_by :=
  fn_at (c := c_rounded_by) T.d_rounded_by sc_rounded_by (fun f cdv A outer s H E hr => by
    have nd := sc_rounded_by.nd
    exact (css_one (cs_match (ce_v 0) (Arms.val (css_one (cs_ret (CE.bo (ce_f A_nearest hr (ca_cons (ce_v 1) (ca_cons (ce_v 2) ca_nil)))))) (Arms.val (css_one (cs_ret (CE.bo (ce_op op_fdivD (CE.bo (ce_op op_addD (CE.bo (ce_op op_mulD (CE.bo ce_i) (CE.bo (ce_v 1)))) (CE.bo (ce_v 2)))) (CE.bo (ce_op op_mulD (CE.bo ce_i) (CE.bo (ce_v 2)))))))) (Arms.val (css_one (cs_ret (CE.bo (ce_op op_fdivD (CE.bo (ce_v 1)) (CE.bo (ce_v 2)))))) (Arms.val (css_one (cs_ret (CE.bo (ce_un un_negD (CE.bo (ce_op op_fdivD (CE.bo (ce_un un_negD (CE.bo (ce_v 1)))) (CE.bo (ce_v 2)))))))) (Arms.any (css_one (cs_ret (CE.bo (ce_if (ct_cmp (op_eqDD hr.g.units) (CE.bo (ce_op op_modD (CE.bo (ce_v 1)) (CE.bo (ce_v 2)))) (CE.bo ce_i)) (ce_op op_fdivD (CE.bo (ce_v 1)) (CE.bo (ce_v 2))) (ce_op op_orD (CE.bo (ce_op op_fdivD (CE.bo (ce_v 1)) (CE.bo (ce_v 2)))) (CE.bo ce_i)))))) Arms.nil))))))))
    (fun ds hc Q E h => len_rounded_by h) (fun ds hc Q E h => pure_rounded_by h) (fun _ _ _ _ _ _ us hl => match us, hl with | [_, _, _], _ => rfl)
abbrev N_read_position : List Str := ["form", "way", "num", "den", "top"]
def c_read_position : CSx :=
  (cSeq (cAsg (cOp subD (cCall sp_count_of (cCons (cV 0) cNil)) (cC (.int 1))) (gN 4))
    (cSeq (cIfS (cT (cOp leD (cV 2) (cOp mulD (cV 4) (cV 3))))
    (cRet (cCall sp_rounded_by (cCons (cV 1) (cCons (cV 2) (cCons (cV 3) cNil)))))
    cNext)
    (cMatch (cV 1) [(some "zero", (cRet (cV 4))), (some "odd", (cRet (cOp orD (cV 4) (cC (.int 1))))), (none, (cRet (cFn minD2 (cCons (cOp addD (cV 4) (cC (.int 1))) (cCons (cCall sp_rounded_by (cCons (cV 1) (cCons (cV 2) (cCons (cV 3) cNil)))) cNil)))))])))
def sp_read_position : Spc := fun ds hc Q _ => ∃ (w : Str) (p l h n d : Int), ds = [fmD p l h, .str w, .int n, .int d] ∧ Fm p l h ∧ RdOk n d ∧ Q (.int (rdI w (cntI p l h - 1) n d)) hc
theorem len_read_position {ds : List D} {hc : CH} {Q E} (h : sp_read_position ds hc Q E) : ds.length = 4 := by
  obtain ⟨w, p, l, h, n, d, rfl, _⟩ := h
  rfl
theorem pure_read_position {ds : List D} {hc : CH} {Q : D → CH → Prop} {E} (h : sp_read_position ds hc Q E) : c_read_position { nx := fun _ hc' => Q .non hc', rt := Q, xp := fun x _ hc' => E x hc' } (startC N_read_position ds) hc := by
  obtain ⟨w, p, l, h, n, d, rfl, f, ok, k⟩ := h
  have cb : (cntI p l h - 1).natAbs < 2 ^ 141 := natAbs_sub_pow (cnt_bits f) (Nat.one_lt_two_pow (by decide))
  have mo : Mn.MulOk (cntI p l h - 1) d := by
    rcases ok.b with b | b
    · exact mulOk 141 8990 cb b (by decide)
    · exact mulOk 141 13490 cb b.2 (by decide)
  unfold rdI at k
  unfold c_read_position N_read_position
  refine seq_step fun M hM => ?_
  walk_at "n"
  refine ⟨p, l, h, rfl, f, ?_⟩
  walk_at "n"
  refine hM _ _ ?_
  refine seq_step fun M hM => ?_
  walk_at "n"
  refine ⟨mo, ?_⟩
  by_cases z : n ≤ (cntI p l h - 1) * d
  · rw [if_pos z] at k
    rw [if_pos (decide_eq_true z)]
    exact ⟨w, n, d, rfl, ok, k⟩
  rw [if_neg z] at k
  rw [if_neg (by rw [decide_eq_false z]; exact Bool.false_ne_true)]
  refine hM _ _ ?_
  walk_at "n"
  split
  · next z =>
    rw [if_pos z] at k
    exact k
  next z =>
  rw [if_neg z] at k
  split
  · next z =>
    rw [if_pos z] at k
    rw [or_one]
    exact k
  next z =>
  rw [if_neg z] at k
  refine ⟨w, n, d, rfl, ok, ?_⟩
  walk_at "n"
  exact k
theorem at_read_position (T : Txt K mg) (B : BaseT K mg base) (KX : K.In base) (PS : Sup P mf) (A_count_of : FnAt P w K mg base 2 "count_of" ["form"] sp_count_of) (A_rounded_by : FnAt P w K mg base 2 "rounded_by" ["way", "num", "den"] sp_rounded_by) : FnAt P w K mg base 3 "read_position" ["form", "way", "num", "den"] sp_read_position :=
  fn_at (c := c_read_position) T.d_read_position sc_read_position (fun f cdv A outer s H E hr => by
    have nd := sc_read_position.nd
    exact (css_cons (cs_set nd (ce_op op_subD (CE.bo (ce_f A_count_of hr (ca_cons (ce_v 0) ca_nil))) (CE.bo ce_i)))
    (css_cons (cs_if (ct_cmp op_leD (CE.bo (ce_v 2)) (CE.bo (ce_op op_mulD (CE.bo (ce_v 4)) (CE.bo (ce_v 3)))))
    (css_one (cs_ret (CE.bo (ce_f A_rounded_by hr (ca_cons (ce_v 1) (ca_cons (ce_v 2) (ca_cons (ce_v 3) ca_nil)))))))
    css_nil)
    (css_one (cs_match (ce_v 1) (Arms.val (css_one (cs_ret (CE.bo (ce_v 4)))) (Arms.val (css_one (cs_ret (CE.bo (ce_op op_orD (CE.bo (ce_v 4)) (CE.bo ce_i))))) (Arms.any (css_one (cs_ret (CE.bo (ce_bf (bf_min2 rfl) T.n_min (cba_cons (CE.bo (ce_op op_addD (CE.bo (ce_v 4)) (CE.bo ce_i))) (cba_cons (CE.bo (ce_f A_rounded_by hr (ca_cons (ce_v 1) (ca_cons (ce_v 2) (ca_cons (ce_v 3) ca_nil))))) cba_nil)))))) Arms.nil))))))))
    (fun ds hc Q E h => len_read_position h) (fun ds hc Q E h => pure_read_position h) (fun _ _ _ _ _ _ us hl => match us, hl with | [_, _, _, _], _ => rfl)
abbrev N_read_fraction : List Str := ["form", "way", "num", "den", "part", "whole"]
def c_read_fraction : CSx :=
  (cSeq (cAsg (cCall sp_position_at (cCons (cV 0) (cCons (cV 2) (cCons (cV 3) cNil)))) (gUn 2 (gCons' (gN 4) (gCons' (gN 5) gNil'))))
    (cRet (cCall sp_read_position (cCons (cV 0) (cCons (cV 1) (cCons (cV 4) (cCons (cV 5) cNil)))))))
def FrOk (n d : Int) : Prop := d.natAbs < 2 ^ 7780 ∧ n.natAbs < 2 ^ 100000 ∨ n.natAbs < 2 ^ 12100 ∧ d.natAbs < 2 ^ 12100
def sp_read_fraction : Spc := fun ds hc Q _ => ∃ (w : Str) (p l h n d : Int), ds = [fmD p l h, .str w, .int n, .int d] ∧ Fm p l h ∧ IsWay w ∧ 0 ≤ n ∧ 0 < d ∧ FrOk n d ∧ ∀ c, FlAt p l h (unA n l) (unB d l) c → Q (.int (readI w c (sideU p c (unA n l) (unB d l)))) hc
theorem len_read_fraction {ds : List D} {hc : CH} {Q E} (h : sp_read_fraction ds hc Q E) : ds.length = 4 := by
  obtain ⟨w, p, l, h, n, d, rfl, _⟩ := h
  rfl
theorem fl_some {p l h n d : Int} (f : Fm p l h) (n0 : 0 ≤ n) : ∃ c, FlAt p l h (unA n l) (unB d l) c := fl_exists f (Int.mul_nonneg n0 (Int.le_of_lt (P2_pos _)))
theorem pure_read_fraction {ds : List D} {hc : CH} {Q : D → CH → Prop} {E} (h : sp_read_fraction ds hc Q E) : c_read_fraction { nx := fun _ hc' => Q .non hc', rt := Q, xp := fun x _ hc' => E x hc' } (startC N_read_fraction ds) hc := by
  obtain ⟨w, p, l, h, n, d, rfl, f, hw, n0, d0, ok, k⟩ := h
  have l0 := f.l0
  have h1 := f.h1
  obtain ⟨c, x⟩ := fl_some (d := d) f n0
  have k := k c x
  have ok1 : n.natAbs < 2 ^ 100000 ∧ d.natAbs < 2 ^ 100000 := by
    rcases ok with b | b
    · exact ⟨b.2, up_pow 100000 b.1 (Nat.le_of_ble_eq_true rfl)⟩
    · exact ⟨up_pow 100000 b.1 (Nat.le_of_ble_eq_true rfl), up_pow 100000 b.2 (Nat.le_of_ble_eq_true rfl)⟩
  unfold c_read_fraction N_read_fraction
  refine seq_step fun M hM => ?_
  walk_at "n"
  refine ⟨p, l, h, n, d, 100000, rfl, f, n0, d0, ok1.1, ok1.2, by decide, fun e ex => ?_⟩
  have e0 := ex.lo
  have e1 := ex.hi
  have rd : RdOk (posN p l n d e) (posW d e) := ⟨posN_nn f ex n0 d0, Int.mul_pos d0 (P2_pos e), by
    rcases ok with b | b
    · exact .inl (up_pow 8990 (mul_pow b.1 (P2_bits e 1200 (by omega))) (by decide))
    · obtain ⟨b1, b2⟩ := posN_bits f ex b.1 b.2
      exact .inr ⟨up_pow 13490 b1 (by decide), up_pow 13490 b2 (by decide)⟩⟩
  rw [← read_code hw f d0 x ex] at k
  clear ok ok1
  revert rd k
  generalize posN p l n d e = N
  generalize posW d e = W
  intro k rd
  walk_at "n"
  refine hM _ _ ?_
  walk_at "n"
  exact ⟨w, p, l, h, N, W, rfl, f, rd, k⟩
theorem at_read_fraction (T : Txt K mg) (B : BaseT K mg base) (KX : K.In base) (PS : Sup P mf) (A_position_at : FnAt P w K mg base 3 "position_at" ["form", "num", "den"] sp_position_at) (A_read_position : FnAt P w K mg base 3 "read_position" ["form", "way", "num", "den"] sp_read_position) : FnAt P w K mg base 4 "read_fraction" ["form", "way", "num", "den"] sp_read_fraction :=
  fn_at (c := c_read_fraction) T.d_read_fraction sc_read_fraction (fun f cdv A outer s H E hr => by
    have nd := sc_read_fraction.nd
    exact (css_cons (cs_asg (ce_f A_position_at hr (ca_cons (ce_v 0) (ca_cons (ce_v 2) (ca_cons (ce_v 3) ca_nil)))) (cg_u rfl (cgs_cons (cg_n 4 nd) (cgs_cons (cg_n 5 nd) cgs_nil))))
    (css_one (cs_ret (CE.bo (ce_f A_read_position hr (ca_cons (ce_v 0) (ca_cons (ce_v 1) (ca_cons (ce_v 4) (ca_cons (ce_v 5) ca_nil))))))))))
    (fun ds hc Q E h => len_read_fraction h) (fun ds hc Q E h => pure_read_fraction h) (fun _ _ _ _ _ _ us hl => match us, hl with | [_, _, _, _], _ => rfl)
abbrev N_read : List Str := ["form", "way", "decimal", "num", "den"]
def c_read : CSx :=
  (cSeq (cAsg (cCall sp_fraction_of (cCons (cV 2) cNil)) (gUn 2 (gCons' (gN 3) (gCons' (gN 4) gNil'))))
    (cRet (cCall sp_read_fraction (cCons (cV 0) (cCons (cV 1) (cCons (cV 3) (cCons (cV 4) cNil)))))))
def sp_read : Spc := fun ds hc Q _ => ∃ (w : Str) (p l h d q : Int), ds = [fmD p l h, .str w, .tup [.int d, .int q]] ∧ Fm p l h ∧ IsWay w ∧ 0 ≤ d ∧ d.natAbs < 2 ^ 4400 ∧ -2500 ≤ q ∧ q ≤ 2500 ∧ ∀ c, FlAt p l h (unA (d * P10 q) l) (unB (P10 (-q)) l) c → Q (.int (readI w c (sideU p c (unA (d * P10 q) l) (unB (P10 (-q)) l)))) hc
theorem len_read {ds : List D} {hc : CH} {Q E} (h : sp_read ds hc Q E) : ds.length = 3 := by
  obtain ⟨w, p, l, h, d, q, rfl, _⟩ := h
  rfl
theorem pure_read {ds : List D} {hc : CH} {Q : D → CH → Prop} {E} (h : sp_read ds hc Q E) : c_read { nx := fun _ hc' => Q .non hc', rt := Q, xp := fun x _ hc' => E x hc' } (startC N_read ds) hc := by
  obtain ⟨w, p, l, h, d, q, rfl, f, hw, d0, db, q0, q1, k⟩ := h
  have fr : FrOk (d * P10 q) (P10 (-q)) := by
    by_cases z : 0 ≤ q
    · refine .inl ⟨?_, up_pow 100000 (mul_pow db (P10_b 2500 10001 q1 (by decide))) (Nat.le_of_ble_eq_true rfl)⟩
      rw [P10_nn (by omega)]
      exact Nat.one_lt_two_pow (by decide)
    · refine .inr ⟨?_, P10_b 2500 12100 (by omega) (by decide)⟩
      rw [P10_nn (by omega), Int.mul_one]
      exact up_pow 12100 db
  have n0 : 0 ≤ d * P10 q := Int.mul_nonneg d0 (Int.le_of_lt (P10_pos _))
  have e0 : 0 < P10 (-q) := P10_pos _
  unfold c_read N_read
  refine seq_step fun M hM => ?_
  walk_at "n"
  refine ⟨d, q, rfl, up_pow 100000 db (Nat.le_of_ble_eq_true rfl), by omega, ?_⟩
  walk_at "n"
  refine hM _ _ ?_
  walk_at "n"
  exact ⟨w, p, l, h, _, _, rfl, f, hw, n0, e0, fr, k⟩
theorem at_read (T : Txt K mg) (B : BaseT K mg base) (KX : K.In base) (PS : Sup P mf) (A_fraction_of : FnAt P w K mg base 2 "fraction_of" ["decimal"] sp_fraction_of) (A_read_fraction : FnAt P w K mg base 4 "read_fraction" ["form", "way", "num", "den"] sp_read_fraction) : FnAt P w K mg base 5 "read" ["form", "way", "decimal"] sp_read :=
  fn_at (c := c_read) T.d_read sc_read (fun f cdv A outer s H E hr => by
    have nd := sc_read.nd
    exact (css_cons (cs_asg (ce_f A_fraction_of hr (ca_cons (ce_v 2) ca_nil)) (cg_u rfl (cgs_cons (cg_n 3 nd) (cgs_cons (cg_n 4 nd) cgs_nil))))
    (css_one (cs_ret (CE.bo (ce_f A_read_fraction hr (ca_cons (ce_v 0) (ca_cons (ce_v 1) (ca_cons (ce_v 3) (ca_cons (ce_v 4) ca_nil))))))))))
    (fun ds hc Q E h => len_read h) (fun ds hc Q E h => pure_read h) (fun _ _ _ _ _ _ us hl => match us, hl with | [_, _, _], _ => rfl)
abbrev N_read_text : List Str := ["form", "way", "value", "parsed", "sign", "base", "number", "power"]
def c_read_text : CSx :=
  (cSeq (cAsg (cCall sp_parse_text (cCons (cV 2) cNil)) (gN 3))
    (cSeq (cIfS (cT (cOp eqD (cOp ixD (cV 3) (cC (.int 1))) (cC (.str "inf"))))
    (cRet (cTup (cCons (cOp ixD (cV 3) (cC (.int 0))) (cCons (cCall sp_count_of (cCons (cV 0) cNil)) cNil))))
    cNext)
    (cSeq (cAsg (cV 3) (gUn 4 (gCons' (gN 4) (gCons' (gN 5) (gCons' (gN 6) (gCons' (gN 7) gNil'))))))
    (cSeq (cIfS (cT (cOp eqD (cV 5) (cC (.int 10))))
    (cRet (cTup (cCons (cV 4) (cCons (cCall sp_read (cCons (cV 0) (cCons (cV 1) (cCons (cTup (cCons (cV 6) (cCons (cV 7) cNil))) cNil)))) cNil))))
    cNext)
    (cRet (cTup (cCons (cV 4) (cCons (cCall sp_read_fraction (cCons (cV 0) (cCons (cV 1) (cCons (cOp shlD (cV 6) (cFn maxD2 (cCons (cC (.int 0)) (cCons (cV 7) cNil)))) (cCons (cOp shlD (cC (.int 1)) (cFn maxD2 (cCons (cC (.int 0)) (cCons (cOp subD (cC (.int 0)) (cV 7)) cNil)))) cNil))))) cNil))))))))
def sgJ (sg : List Nat) : Int := if sg = [45] then 1 else 0
def sp_read_text : Spc := fun ds hc Q E => ∃ (w : Str) (p l h : Int) (v : D), ds = [fmD p l h, .str w, v] ∧ Fm p l h ∧ IsWay w ∧
  ((∃ sg, v = .str (txt (sg ++ [105, 110, 102])) ∧ (sg = [] ∨ sg = [43] ∨ sg = [45]) ∧ Q (.tup [.int (sgJ sg), .int (cntI p l h)]) hc) ∨
  (∃ sg rest num den, v = .str (txt (sg ++ rest)) ∧ (sg = [] ∨ sg = [43] ∨ sg = [45]) ∧ RdT rest num den ∧ (sg ++ rest).length ≤ 100000 ∧ ∀ c, FlAt p l h (unA num l) (unB den l) c → Q (.tup [.int (sgJ sg), .int (readI w c (sideU p c (unA num l) (unB den l)))]) hc) ∨
  ((v = .non ∨ ∃ n : Int, v = .int n) ∧ E ⟨"BadText", [("place", .non)]⟩ hc) ∨
  ∃ rest pos, v = .str (txt rest) ∧ rest.take 1 ≠ [45] ∧ rest.take 1 ≠ [43] ∧ rest.take 1 ≠ [105] ∧ rest.take 2 ≠ [48, 120] ∧ (∀ c ∈ rest.take 1, c < 128) ∧ DecW [] rest pos ∧ rest.length ≤ 100000 ∧ E ⟨"BadText", [("place", .int pos)]⟩ hc)
theorem len_read_text {ds : List D} {hc : CH} {Q E} (h : sp_read_text ds hc Q E) : ds.length = 3 := by
  obtain ⟨w, p, l, h, v, rfl, _⟩ := h
  rfl
theorem pure_read_text {ds : List D} {hc : CH} {Q : D → CH → Prop} {E} (h : sp_read_text ds hc Q E) : c_read_text { nx := fun _ hc' => Q .non hc', rt := Q, xp := fun x _ hc' => E x hc' } (startC N_read_text ds) hc := by
  obtain ⟨w, p, l, h, v, rfl, f, hw, cs⟩ := h
  unfold c_read_text N_read_text
  refine seq_step fun M hM => ?_
  walk_at "n"
  rcases cs with ⟨sg, rfl, hsg, k⟩ | ⟨sg, rest, num, den, rfl, hsg, rd, hl, k⟩ | ⟨hv, q⟩ | ⟨rest, pos, rfl, t1, t2, t3, t4, t5, w, hl, q⟩
  · refine .inl ⟨sg, _, _, rfl, hsg, .inl ⟨rfl, rfl⟩, by rcases hsg with rfl | rfl | rfl <;> decide, ?_⟩
    walk_at "n"
    refine hM _ _ ?_
    refine seq_step fun M hM => ?_
    walk_at "n"
    refine ⟨p, l, h, rfl, f, ?_⟩
    walk_at "n"
    exact ⟨by decide, k⟩
  · rcases rd with ⟨d, q, nt, d0, db, q0, q1, rfl, rfl⟩ | ⟨d, q, nt, d0, db, q0, q1, rfl, rfl⟩
    · refine .inl ⟨sg, rest, _, rfl, hsg, nt, hl, ?_⟩
      walk_at "n"
      refine hM _ _ ?_
      refine seq_step fun M hM => ?_
      walk_at "n"
      refine eqD_ok 0 0 rfl (by decide +kernel) (fun z => nomatch z) fun _ => ?_
      walk_at "n"
      refine hM _ _ ?_
      refine seq_step fun M hM => ?_
      walk_at "n"
      refine hM _ _ ?_
      refine seq_step fun M hM => ?_
      walk_at "n"
      refine ⟨by decide, w, p, l, h, d, q, rfl, f, hw, d0, db, q0, q1, fun c fl => ?_⟩
      walk_at "n"
      exact ⟨by decide, k c fl⟩
    · refine .inl ⟨sg, rest, _, rfl, hsg, nt, hl, ?_⟩
      walk_at "n"
      refine hM _ _ ?_
      refine seq_step fun M hM => ?_
      walk_at "n"
      refine eqD_ok 0 0 rfl (by decide +kernel) (fun z => nomatch z) fun _ => ?_
      walk_at "n"
      refine hM _ _ ?_
      refine seq_step fun M hM => ?_
      walk_at "n"
      refine hM _ _ ?_
      refine seq_step fun M hM => ?_
      walk_at "n"
      refine hM _ _ ?_
      walk_at "n"
      have fr : FrOk (d * P2 q) (P2 (-q)) := .inr ⟨up_pow 12100 (mul_pow db (P2_bits q 100 q1)) (by decide), up_pow 12100 (P2_bits (-q) 100 (by omega)) (by decide)⟩
      have sh1 : ∀ s : Int, s ≤ 100 → ∀ x : Int, x.natAbs < 2 ^ 100 → CShl x (if s > 0 then s else 0) := fun s hs x hx => shlOk (a := 100) (b := 3000) hx (by split <;> omega) (by split <;> omega) (by decide)
      have eP : ∀ s : Int, (2 : Int) ^ (if s > 0 then s else 0).toNat = P2 s := P2_max
      have n0 : (0 : Int) - q = -q := by omega
      refine ⟨sh1 q q1 d db, sh1 (0 - q) (by omega) 1 (Nat.lt_trans (show (1 : Int).natAbs < 2 ^ 2 by decide) (by decide)), ?_⟩
      rw [eP, eP, n0, Int.one_mul]
      refine ⟨w, p, l, h, _, _, rfl, f, hw, Int.mul_nonneg d0 (Int.le_of_lt (P2_pos _)), P2_pos _, fr, fun c fl => ?_⟩
      walk_at "n"
      exact ⟨by decide, k c fl⟩
  · exact .inr (.inl ⟨v, rfl, hv, q⟩)
  · exact .inr (.inr ⟨rest, pos, rfl, t1, t2, t3, t4, t5, w, hl, q⟩)
theorem at_read_text (T : Txt K mg) (B : BaseT K mg base) (KX : K.In base) (PS : Sup P mf) (A_parse_text : FnAt P w K mg base 4 "parse_text" ["value"] sp_parse_text) (A_count_of : FnAt P w K mg base 2 "count_of" ["form"] sp_count_of) (A_read : FnAt P w K mg base 5 "read" ["form", "way", "decimal"] sp_read) (A_read_fraction : FnAt P w K mg base 4 "read_fraction" ["form", "way", "num", "den"] sp_read_fraction) : FnAt P w K mg base 6 "read_text" ["form", "way", "value"] sp_read_text :=
  fn_at (c := c_read_text) T.d_read_text sc_read_text (fun f cdv A outer s H E hr => by
    have nd := sc_read_text.nd
    exact (css_cons (cs_set nd (ce_f A_parse_text hr (ca_cons (ce_v 2) ca_nil)))
    (css_cons (cs_if (ct_cmp (op_eqDD hr.g.units) (CE.bo (ce_ix (CE.bo (ce_v 3)) ce_i)) (CE.bo ce_s))
    (css_one (cs_ret (CE.bo (ce_tup (ca_cons (ce_ix (CE.bo (ce_v 3)) ce_i) (ca_cons (ce_f A_count_of hr (ca_cons (ce_v 0) ca_nil)) ca_nil))))))
    css_nil)
    (css_cons (cs_asg (ce_v 3) (cg_u rfl (cgs_cons (cg_n 4 nd) (cgs_cons (cg_n 5 nd) (cgs_cons (cg_n 6 nd) (cgs_cons (cg_n 7 nd) cgs_nil))))))
    (css_cons (cs_if (ct_cmp (op_eqDD hr.g.units) (CE.bo (ce_v 5)) (CE.bo ce_i))
    (css_one (cs_ret (CE.bo (ce_tup (ca_cons (ce_v 4) (ca_cons (ce_f A_read hr (ca_cons (ce_v 0) (ca_cons (ce_v 1) (ca_cons (ce_tup (ca_cons (ce_v 6) (ca_cons (ce_v 7) ca_nil))) ca_nil)))) ca_nil))))))
    css_nil)
    (css_one (cs_ret (CE.bo (ce_tup (ca_cons (ce_v 4) (ca_cons (ce_f A_read_fraction hr (ca_cons (ce_v 0) (ca_cons (ce_v 1) (ca_cons (ce_op op_shlD (CE.bo (ce_v 6)) (CE.bo (ce_bf (bf_max2 rfl) T.n_max (cba_cons (CE.bo ce_i) (cba_cons (CE.bo (ce_v 7)) cba_nil))))) (ca_cons (ce_op op_shlD (CE.bo ce_i) (CE.bo (ce_bf (bf_max2 rfl) T.n_max (cba_cons (CE.bo ce_i) (cba_cons (CE.bo (ce_op op_subD (CE.bo ce_i) (CE.bo (ce_v 7)))) cba_nil))))) ca_nil))))) ca_nil)))))))))))
    (fun ds hc Q E h => len_read_text h) (fun ds hc Q E h => pure_read_text h) (fun _ _ _ _ _ _ us hl => match us, hl with | [_, _, _], _ => rfl)
abbrev N__law_fails : List Str := ["_law_form_here", "_law_way", "_law_value", "error"]
def c__law_fails : CSx :=
  (cTryAs [("BadText", true)]
    (cRet (cLst (cCons (cC (.str "read")) (cCons (cCall sp_read_text (cCons (cV 0) (cCons (cV 1) (cCons (cV 2) cNil)))) cNil)))) 3 (fun a y d =>
    (cRet (cXf ["BadText"] a y d 3 "place"))))
def sp__law_fails : Spc := fun ds hc Q _ => ∃ (p l h : Int) (v place : D), ds = [fmD p l h, .str "even", v] ∧ Fm p l h ∧
  (((v = .non ∨ ∃ n : Int, v = .int n) ∧ place = .non) ∨
  ∃ rest pos, v = .str (txt rest) ∧ rest.take 1 ≠ [45] ∧ rest.take 1 ≠ [43] ∧ rest.take 1 ≠ [105] ∧ rest.take 2 ≠ [48, 120] ∧ (∀ c ∈ rest.take 1, c < 128) ∧ DecW [] rest pos ∧ rest.length ≤ 100000 ∧ place = .int pos) ∧ Q place hc
theorem len__law_fails {ds : List D} {hc : CH} {Q E} (h : sp__law_fails ds hc Q E) : ds.length = 3 := by
  obtain ⟨p, l, h, v, place, rfl, _⟩ := h
  rfl
theorem pure__law_fails {ds : List D} {hc : CH} {Q : D → CH → Prop} {E} (h : sp__law_fails ds hc Q E) : c__law_fails { nx := fun _ hc' => Q .non hc', rt := Q, xp := fun x _ hc' => E x hc' } (startC N__law_fails ds) hc := by
  obtain ⟨p, l, h, v, place, rfl, f, cs, k⟩ := h
  unfold c__law_fails N__law_fails
  walk_at "n"
  rcases cs with ⟨hv, rfl⟩ | ⟨rest, pos, rfl, t1, t2, t3, t4, t5, w, hl, rfl⟩
  · refine ⟨rfl, Str.ofString "even", p, l, h, v, rfl, f, .inl rfl, .inr (.inr (.inl ⟨hv, ?_⟩))⟩
    walk_at "n"
    show ∀ (a : Addr) (dx : Option Addr), _
    exact fun _ _ => ⟨rfl, k⟩
  · refine ⟨rfl, Str.ofString "even", p, l, h, _, rfl, f, .inl rfl, .inr (.inr (.inr ⟨rest, pos, rfl, t1, t2, t3, t4, t5, w, hl, ?_⟩))⟩
    walk_at "n"
    show ∀ (a : Addr) (dx : Option Addr), _
    exact fun _ _ => ⟨rfl, k⟩
theorem at__law_fails (T : Txt K mg) (B : BaseT K mg base) (KX : K.In base) (PS : Sup P mf) (A_read_text : FnAt P w K mg base 6 "read_text" ["form", "way", "value"] sp_read_text) : FnAt P w K mg base 7 "_law_fails" ["_law_form_here", "_law_way", "_law_value"] sp__law_fails :=
  fn_at (c := c__law_fails) T.d__law_fails sc__law_fails (fun f cdv A outer s H E hr => by
    have nd := sc__law_fails.nd
    exact (css_one (cs_try_asC (ct := [("BadText", true)]) hr nd T.g_BadText (fun C hz => (exm_cons T.e_BadText_BadText hz exm_nil))
    (fun W1 pn1 xe1 hr => (css_one (cs_ret (CE.bo (ce_lst (ca_cons ce_s (ca_cons (ce_f A_read_text hr (ca_cons (ce_v 0) (ca_cons (ce_v 1) (ca_cons (ce_v 2) ca_nil)))) ca_nil)))))))
    (fun a oe y cls d pn hy hz hv => (css_one (cs_ret (CE.bo (ce_xf (ys := ["BadText"]) (i := 3) (tx_cons T.x_BadText tx_nil) hy hz hv))))))))
    (fun ds hc Q E h => len__law_fails h) (fun ds hc Q E h => pure__law_fails h) (fun _ _ _ _ _ _ us hl => match us, hl with | [_, _, _], _ => rfl)
abbrev N_law : List Str := ["_law_script", "_law_deck_here", "_law_turn", "_law_form_here", "_law_values", "_law_k", "_law_text_here", "_law_number", "_law_front", "_law_way", "_law_due", "_law_value", "_law_place", "_law_again"]
def c_law : CSx :=
  (cSeq (cAsg (cCall sp__law_deck (cCons (cV 0) cNil)) (gN 1))
    (cSeq (cFor (cR1 (cCons (cC (.int 10)) cNil)) (gN 2)
    (cSeq (cAsg (cCall sp__law_form (cCons (cV 1) cNil)) (gN 3))
    (cSeq (cAsg (cCall sp__law_numbers (cCons (cV 3) cNil)) (gN 4))
    (cSeq (cFor (cR1 (cCons (cC (.int 6)) cNil)) (gN 5)
    (cSeq (cAsg (cCall sp__law_text (cCons (cV 1) (cCons (cV 4) cNil))) (gUn 2 (gCons' (gN 6) (gCons' (gN 7) gNil'))))
    (cSeq (cAsg (cOp ixD (cLst (cCons (cC (.str "")) (cCons (cC (.str "+")) (cCons (cC (.str "-")) cNil)))) (cCall sp__law_draw (cCons (cV 1) (cCons (cC (.int 3)) cNil)))) (gN 8))
    (cFor (cIt (cLst (cCons (cC (.str "even")) (cCons (cC (.str "away")) (cCons (cC (.str "zero")) (cCons (cC (.str "out")) (cCons (cC (.str "odd")) cNil))))))) (gN 9)
    (cSeq (cAsg (cTup (cCons (cFn intFD (cCons (cOp eqD (cV 8) (cC (.str "-"))) cNil)) (cCons (cCall sp__law_code (cCons (cV 4) (cCons (cV 9) (cCons (cOp ixD (cV 7) (cC (.int 0))) (cCons (cOp ixD (cV 7) (cC (.int 1))) cNil))))) cNil))) (gN 10))
    (cSeq (cIfS (cT (cOp neD (cFn reprD (cCons (cLc (cR1 (cCons (cC (.int 2)) cNil)) (gN 13) cYes (cCall sp_read_text (cCons (cV 3) (cCons (cV 9) (cCons (cOp addD (cV 8) (cV 6)) cNil)))) [13]) cNil)) (cFn reprD (cCons (cLst (cCons (cV 10) (cCons (cV 10) cNil))) cNil))))
    (cRet (cC (.bl false)))
    cNext)
    (cIfS (cT (cOp neD (cFn reprD (cCons (cCall sp_read_text (cCons (cV 3) (cCons (cV 9) (cCons (cOp addD (cV 8) (cC (.str "inf"))) cNil)))) cNil)) (cFn reprD (cCons (cTup (cCons (cOp ixD (cV 10) (cC (.int 0))) (cCons (cOp subD (cFn lenD (cCons (cV 4) cNil)) (cC (.int 1))) cNil))) cNil))))
    (cRet (cC (.bl false)))
    cNext)))))))
    (cFor (cIt (cLst (cCons (cLst (cCons (cC (.str "1e")) (cCons (cC (.int 2)) cNil))) (cCons (cLst (cCons (cC (.str "x")) (cCons (cC (.int 0)) cNil))) (cCons (cLst (cCons (cC .non) (cCons (cC .non) cNil))) (cCons (cLst (cCons (cC (.int 5)) (cCons (cC .non) cNil))) (cCons (cLst (cCons (cC (.str "1e1201")) (cCons (cC (.int 5)) cNil))) (cCons (cLst (cCons (cC (.str "")) (cCons (cC (.int 0)) cNil))) cNil)))))))) (gUn 2 (gCons' (gN 11) (gCons' (gN 12) gNil')))
    (cIfS (cT (cOp neD (cCall sp__law_fails (cCons (cV 3) (cCons (cC (.str "even")) (cCons (cV 11) cNil)))) (cV 12)))
    (cRet (cC (.bl false)))
    cNext))))))
    (cRet (cOp eqD (cLc (cIt (cTup (cCons (cC (.str "even")) (cCons (cC (.str "away")) (cCons (cC (.str "odd")) cNil))))) (gN 9) cYes (cCall sp_read_text (cCons (cTup (cCons (cC (.int 3)) (cCons (cUn negD (cC (.int 2))) (cCons (cC (.int 2)) cNil)))) (cCons (cV 9) (cCons (cC (.str "2.25")) cNil)))) [9]) (cLst (cCons (cTup (cCons (cC (.int 0)) (cCons (cC (.int 8)) cNil))) (cCons (cTup (cCons (cC (.int 0)) (cCons (cC (.int 9)) cNil))) (cCons (cTup (cCons (cC (.int 0)) (cCons (cC (.int 9)) cNil))) cNil))))))))
def sp_law : Spc := spLaw
theorem len_law {ds : List D} {hc : CH} {Q E} (h : sp_law ds hc Q E) : ds.length = 1 := by
  obtain ⟨ns, rfl, _⟩ := h
  rfl
theorem way_mem {x : D} (hx : x ∈ [D.str "even", .str "away", .str "zero", .str "out", .str "odd"]) : ∃ w : Str, x = .str w ∧ IsWay w := by
  simp only [List.mem_cons, List.not_mem_nil, or_false] at hx
  rcases hx with rfl | rfl | rfl | rfl | rfl
  · exact ⟨_, rfl, .inl rfl⟩
  · exact ⟨_, rfl, .inr (.inl rfl)⟩
  · exact ⟨_, rfl, .inr (.inr (.inl rfl))⟩
  · exact ⟨_, rfl, .inr (.inr (.inr (.inl rfl)))⟩
  · exact ⟨_, rfl, .inr (.inr (.inr (.inr rfl)))⟩
theorem readI_rng {w : Str} {c s : Int} (hw : IsWay w) : c ≤ readI w c s ∧ readI w c s ≤ c + 1 := by
  by_cases z : s = 0
  · rw [z, readI_0]
    omega
  rcases hw with rfl | rfl | rfl | rfl | rfl
  · rw [readI_e z]; split <;> omega
  · rw [readI_a z]; split <;> omega
  · rw [readI_z z]; omega
  · rw [readI_u z]; omega
  · rw [readI_o z]; omega
theorem alld {d : List Nat} (h : d.all (fun c => decide (48 ≤ c) && decide (c ≤ 57)) = true) : PySem.NumText.AllDigits d := fun c hc => by
  have := List.all_eq_true.mp h c hc
  rw [Bool.and_eq_true] at this
  exact ⟨of_decide_eq_true this.1, of_decide_eq_true this.2⟩
theorem fails_t {p l h pos : Int} {x : Str} {rest : List Nat} {hc : CH} {Q : D → CH → Prop} {E : Exn → CH → Prop} (f : Fm p l h) (e : x = txt rest) (t1 : rest.take 1 ≠ [45]) (t2 : rest.take 1 ≠ [43]) (t3 : rest.take 1 ≠ [105]) (t4 : rest.take 2 ≠ [48, 120]) (t5 : ∀ c ∈ rest.take 1, c < 128) (w : DecW [] rest pos) (hl : rest.length ≤ 100000) (q : Q (.int pos) hc) : sp__law_fails [fmD p l h, .str "even", .str x] hc Q E := by
  subst e
  exact ⟨p, l, h, _, .int pos, rfl, f, .inr ⟨rest, pos, rfl, t1, t2, t3, t4, t5, w, hl, rfl⟩, q⟩
theorem rd225 : RdT [50, 46, 50, 53] (225 * P10 (-2)) (P10 (- -2)) := .inl ⟨225, -2, .inr (.inr ⟨[50] ++ 46 :: [50, 53], [], [50, 50, 53], 2, 0, rfl, ⟨.inr ⟨[50], [50, 53], rfl, rfl, rfl⟩, by decide, by decide, by decide⟩, .inl ⟨rfl, rfl⟩, rfl⟩), by decide, Nat.lt_of_lt_of_le (show 225 < 2 ^ 8 by decide) (Nat.pow_le_pow_right (by decide) (by decide)), by decide, by decide, rfl, rfl⟩
theorem last3 : FlAt 3 (-2) 2 (unA (225 * P10 (-2)) (-2)) (unB (P10 (- -2)) (-2)) 8 ∧ sideU 3 8 (unA (225 * P10 (-2)) (-2)) (unB (P10 (- -2)) (-2)) = 2 := by
  refine ⟨⟨by decide, by decide +kernel, by decide +kernel, fun _ => by decide +kernel⟩, ?_⟩
  decide +kernel
def lastF : D → D
  | .str w => .tup [.int 0, .int (readI w 8 2)]
  | d => d
theorem pure_law {ds : List D} {hc : CH} {Q : D → CH → Prop} {E} (h : sp_law ds hc Q E) : c_law { nx := fun _ hc' => Q .non hc', rt := Q, xp := fun x _ hc' => E x hc' } (startC N_law ds) hc := by
  obtain ⟨ns, rfl, hl, k⟩ := h
  unfold c_law N_law
  refine seq_step fun M hM => ?_
  walk_at "n"
  refine ⟨ns, rfl, hl, fun r q hc1 dk => hM _ _ ?_⟩
  refine seq_step fun M hM => ?_
  refine for_step fun R hR => ?_
  walk_at "n"
  refine hR _ _ (fun i sc h => (∃ o2 o3 o4 o5 o6 o7 o8 o9 o10 o11 o12 o13, sc = [.val (.frz (ns.map D.int)), .val (.ref r), o2, o3, o4, o5, o6, o7, o8, o9, o10, o11, o12, o13]) ∧ Dk hc r q (100 * i) h) ⟨⟨_, _, _, _, _, _, _, _, _, _, _, _, rfl⟩, dk⟩ (fun j d sc h Nx e I nx => ?_) (fun sc h I => ?_)
  · obtain ⟨⟨o2, o3, o4, o5, o6, o7, o8, o9, o10, o11, o12, o13, rfl⟩, dk⟩ := I
    obtain ⟨rfl, jp⟩ := rng_at e
    clear e
    walk_at "n"
    refine seq_step fun M hM => ?_
    walk_at "n"
    refine ⟨hc, r, q, _, rfl, dk, by omega, fun p l h hc3 s p6 l8 h8 dk => hM _ _ ?_⟩
    refine seq_step fun M hM => ?_
    walk_at "n"
    refine ⟨p, l, h, rfl, s, l8, h8, ?_⟩
    walk_at "n"
    refine hM _ _ ?_
    refine seq_step fun M hM => ?_
    refine for_step fun R hR => ?_
    walk_at "n"
    refine hR _ _ (fun i sc h' => (∃ o5 o6 o7 o8 o9 o10 o11 o12 o13, sc = [.val (.frz (ns.map D.int)), .val (.ref r), .val (.int j), .val (fmD p l h), .val (.lst (valL p l h)), o5, o6, o7, o8, o9, o10, o11, o12, o13]) ∧ Dk hc r q (100 * j + 3 + 9 * i) h') ⟨⟨_, _, _, _, _, _, _, _, _, rfl⟩, dk⟩ (fun j2 d sc h' Nx2 e2 I nx2 => ?_) (fun sc h' I => ?_)
    · obtain ⟨⟨o5, o6, o7, o8, o9, o10, o11, o12, o13, rfl⟩, dk⟩ := I
      obtain ⟨rfl, jp2⟩ := rng_at e2
      clear e2
      walk_at "n"
      refine seq_step fun M hM => ?_
      walk_at "n"
      refine ⟨hc, r, q, _, p, l, h, rfl, dk, by omega, s, p6, l8, h8, fun rest num den hc4 rd rl dk => ?_⟩
      walk_at "n"
      refine hM _ _ ?_
      refine seq_step fun M hM => ?_
      walk_at "n"
      refine ⟨by decide, hc, r, q, _, _, rfl, dk, by omega, by decide, by decide, fun fr hc5 f0 f1 dk => ?_⟩
      have pk : ∃ sg : List Nat, (sg = [] ∨ sg = [43] ∨ sg = [45]) ∧ atI [D.str "", .str "+", .str "-"] fr = some (.str (txt sg)) := by
        rcases (show fr = 0 ∨ fr = 1 ∨ fr = 2 by omega) with rfl | rfl | rfl
        · exact ⟨[], .inl rfl, rfl⟩
        · exact ⟨[43], .inr (.inl rfl), by rw [← txt_plus]; rfl⟩
        · exact ⟨[45], .inr (.inr rfl), by rw [← txt_minus]; rfl⟩
      obtain ⟨sg, hsg, eg⟩ := pk
      refine oth_some eg (hM _ _ ?_)
      clear eg f0 f1
      refine for_step fun R hR => ?_
      walk_at "n"
      refine ⟨by decide, hR _ _ (fun i sc h' => h' = hc5 ∧ ∃ o9 o10 o11 o12 o13, sc = [.val (.frz (ns.map D.int)), .val (.ref r), .val (.int j), .val (fmD p l h), .val (.lst (valL p l h)), .val (.int j2), .val (.str (txt rest)), .val (.lst [.int num, .int den]), .val (.str (txt sg)), o9, o10, o11, o12, o13]) ⟨rfl, _, _, _, _, _, rfl⟩ (fun j3 d sc h' Nx3 e3 I nx3 => ?_) (fun sc h' I => ?_)⟩
      · obtain ⟨rfl, o9, o10, o11, o12, o13, rfl⟩ := I
        obtain ⟨w, rfl, hw⟩ := way_mem (List.mem_of_getElem? e3)
        clear e3
        walk_at "n"
        obtain ⟨n0, d0, nb, db⟩ := rd.ok
        obtain ⟨c, fl⟩ := fl_exists (B := unB den l) s.f (show 0 ≤ unA num l from Int.mul_nonneg n0 (Int.le_of_lt (P2_pos _)))
        have uq : ∀ c2, FlAt p l h (unA num l) (unB den l) c2 → c2 = c := fun c2 fl2 => fl2.uniq (Int.mul_pos d0 (P2_pos _)) fl
        obtain ⟨v, hv⟩ : ∃ v, v = readI w c (sideU p c (unA num l) (unB den l)) := ⟨_, rfl⟩
        have vr := readI_rng (c := c) (s := sideU p c (unA num l) (unB den l)) hw
        rw [← hv] at vr
        have cb := (cnt_sm s).1
        have c0 := fl.c0
        have c1 := fl.c1
        refine seq_step fun M hM => ?_
        walk_at "n"
        refine ⟨w, p, l, h, num, den, rfl, s, p6, l8, h8, hw, n0, d0, nb, db, fun c2 fl2 => ?_⟩
        rw [uq c2 fl2, ← hv]
        walk_at "n"
        rw [txt_minus, show (if decide (txt sg = txt [45]) = true then (1 : Int) else 0) = sgJ sg by
          unfold sgJ
          by_cases z : sg = [45]
          · rw [if_pos z, if_pos (decide_eq_true (txt_inj.mpr z))]
          · rw [if_neg z, if_neg (by rw [decide_eq_false (fun y => z (txt_inj.mp y))]; exact Bool.false_ne_true)]]
        clear nb db
        refine ⟨by decide, hM _ _ ?_⟩
        have sgb : sgJ sg = 0 ∨ sgJ sg = 1 := by
          unfold sgJ
          split
          · exact .inr rfl
          · exact .inl rfl
        have sgl : sg.length ≤ 1 := by rcases hsg with rfl | rfl | rfl <;> decide
        have s0 : Sh 0 12901 (.int (sgJ sg)) := sh_small (by omega)
        have x2 : ∀ x : Int, 0 ≤ x → x ≤ 500000 → Sh 1 25809 (.tup [.int (sgJ sg), .int x]) := fun x g0 g1 => sh_tupK (n := 0) (c := 12901) (k := 2) (Nat.le_refl _) fun d hd => by
          simp only [List.mem_cons, List.not_mem_nil, or_false] at hd
          rcases hd with rfl | rfl
          · exact s0
          · exact sh_small (by omega)
        have sx : ShOk (.lst [.tup [.int (sgJ sg), .int v], .tup [.int (sgJ sg), .int v]]) := (sh_lstK (n := 1) (c := 25809) (k := 2) (Nat.le_refl _) fun d hd => by
          simp only [List.mem_cons, List.not_mem_nil, or_false, or_self] at hd
          rw [hd]
          exact x2 v (by omega) (by omega)).ok
        have sc := (x2 (cntI p l h) (by omega) (by omega)).ok
        have sz := sizeLine_eq
        refine seq_step fun M hM => ?_
        walk_at "n"
        refine lc_step fun R2 hR2 => ?_
        walk_at "n"
        refine hR2 _ _ (fun _ => .tup [.int (sgJ sg), .int v]) (show 2 ≤ sizeLine by decide) (fun d hd Nx q => ?_) ?_
        · walk_at "n"
          rw [txt_app, txt_len, txt_len]
          refine ⟨by omega, w, p, l, h, _, rfl, s.f, hw, .inr (.inl ⟨sg, rest, num, den, rfl, hsg, rd, by rw [List.length_append]; omega, fun c2 fl2 => ?_⟩)⟩
          rw [uq c2 fl2, ← hv]
          exact q
        rw [show (rngD 0 2).map (fun _ => D.tup [.int (sgJ sg), .int v]) = [.tup [.int (sgJ sg), .int v], .tup [.int (sgJ sg), .int v]] from rfl]
        walk_at "n"
        refine ⟨sx, by decide, sx, hM _ _ ?_⟩
        walk_at "n"
        rw [txt_inf, txt_app, txt_len, txt_len]
        refine ⟨by rw [show ([105, 110, 102] : List Nat).length = 3 from rfl]; omega, w, p, l, h, _, rfl, s.f, hw, .inl ⟨sg, rfl, hsg, ?_⟩⟩
        walk_at "n"
        rw [(val_len s).1, show cntI p l h + 1 - 1 = cntI p l h by omega]
        refine ⟨sc, by decide, sc, ?_⟩
        rw [decide_eq_true (show shw (.tup [.int (sgJ sg), .int (cntI p l h)]) = shw (.tup [.int (sgJ sg), .int (cntI p l h)]) from rfl)]
        walk_at "n"
        exact nx3 _ _ ⟨rfl, _, _, _, _, _, rfl⟩
      · obtain ⟨rfl, o9, o10, o11, o12, o13, rfl⟩ := I
        exact nx2 _ _ ⟨⟨_, _, _, _, _, _, _, _, _, rfl⟩, dk.mono (by omega)⟩
    · obtain ⟨⟨o5, o6, o7, o8, o9, o10, o11, o12, o13, rfl⟩, dk⟩ := I
      refine hM _ _ ?_
      refine for_step fun R hR => ?_
      walk_at "n"
      refine ⟨by decide, by decide, by decide, by decide, by decide, by decide, by decide, hR _ _ (fun i sc h'' => h'' = h' ∧ ∃ o5 o6 o7 o8 o9 o10 o11 o12 o13, sc = [.val (.frz (ns.map D.int)), .val (.ref r), .val (.int j), .val (fmD p l h), .val (.lst (valL p l h)), o5, o6, o7, o8, o9, o10, o11, o12, o13]) ⟨rfl, _, _, _, _, _, _, _, _, _, rfl⟩ (fun j3 d sc h'' Nx3 e3 I nx3 => ?_) (fun sc h'' I => ?_)⟩
      · obtain ⟨rfl, o5, o6, o7, o8, o9, o10, o11, o12, o13, rfl⟩ := I
        have j6 : j3 < 6 := (List.getElem?_eq_some_iff.mp e3).1
        walk_at "n"
        rcases (show j3 = 0 ∨ j3 = 1 ∨ j3 = 2 ∨ j3 = 3 ∨ j3 = 4 ∨ j3 = 5 by omega) with rfl | rfl | rfl | rfl | rfl | rfl
        all_goals
          injection e3 with e3
          subst e3
          walk_at "n"
        · refine fails_t (rest := [49, 101]) (pos := 2) s.f (by decide +kernel) (by decide) (by decide) (by decide) (by decide) (by decide) (.inr ⟨[49], [49], 0, [], [], rfl, ⟨.inl ⟨rfl, rfl⟩, by decide, by decide, by decide⟩, (fun c m => nomatch m), by decide, (fun _ => rfl), (fun c t e => nomatch e), (fun c t e => nomatch e), by decide, by decide, by decide, rfl⟩) (by decide) ?_
          walk_at "n"
          exact nx3 _ _ ⟨rfl, _, _, _, _, _, _, _, _, _, rfl⟩
        · refine fails_t (rest := [120]) (pos := 0) s.f (by decide +kernel) (by decide) (by decide) (by decide) (by decide) (by decide) (.inl ⟨(fun c t e => by cases e; decide), rfl⟩) (by decide) ?_
          walk_at "n"
          exact nx3 _ _ ⟨rfl, _, _, _, _, _, _, _, _, _, rfl⟩
        · refine ⟨p, l, h, _, .non, rfl, s.f, .inl ⟨.inl rfl, rfl⟩, ?_⟩
          walk_at "n"
          exact nx3 _ _ ⟨rfl, _, _, _, _, _, _, _, _, _, rfl⟩
        · refine ⟨p, l, h, _, .non, rfl, s.f, .inl ⟨.inr ⟨_, rfl⟩, rfl⟩, ?_⟩
          walk_at "n"
          exact nx3 _ _ ⟨rfl, _, _, _, _, _, _, _, _, _, rfl⟩
        · refine fails_t (rest := [49, 101, 49, 50, 48, 49]) (pos := 5) s.f (by decide +kernel) (by decide) (by decide) (by decide) (by decide) (by decide) (.inr ⟨[49], [49], 0, [49, 50, 48], [49], rfl, ⟨.inl ⟨rfl, rfl⟩, by decide, by decide, by decide⟩, alld (by decide), by decide, (fun e => nomatch e), (fun c t e => by cases e; decide), (fun c t e => by cases e; decide), by decide, by decide, by decide, rfl⟩) (by decide) ?_
          walk_at "n"
          exact nx3 _ _ ⟨rfl, _, _, _, _, _, _, _, _, _, rfl⟩
        · refine fails_t (rest := []) (pos := 0) s.f (by decide +kernel) (by decide) (by decide) (by decide) (by decide) (by decide) (.inl ⟨(fun c t e => nomatch e), rfl⟩) (by decide) ?_
          walk_at "n"
          exact nx3 _ _ ⟨rfl, _, _, _, _, _, _, _, _, _, rfl⟩
      · obtain ⟨rfl, o5, o6, o7, o8, o9, o10, o11, o12, o13, rfl⟩ := I
        exact nx _ _ ⟨⟨_, _, _, _, _, _, _, _, _, _, _, _, rfl⟩, dk.mono (by show 100 * j + 3 + 9 * 6 ≤ _; omega)⟩
  · obtain ⟨⟨o2, o3, o4, o5, o6, o7, o8, o9, o10, o11, o12, o13, rfl⟩, dk⟩ := I
    refine hM _ _ ?_
    walk_at "n"
    refine lc_step fun R hR => ?_
    walk_at "n"
    refine ⟨by decide, hR _ _ lastF (show 3 ≤ sizeLine by decide) (fun d hd Nx q => ?_) ?_⟩
    · obtain ⟨w, rfl, hw⟩ := way_mem (show d ∈ _ from by
        simp only [List.mem_cons, List.not_mem_nil, or_false] at hd ⊢
        rcases hd with h | h | h
        · exact .inl h
        · exact .inr (.inl h)
        · exact .inr (.inr (.inr (.inr h))))
      walk_at "n"
      refine ⟨by decide, w, 3, -2, 2, _, rfl, ⟨by decide, by decide, by decide, by decide, by decide⟩, hw, .inr (.inl ⟨[], [50, 46, 50, 53], _, _, congrArg D.str (by decide +kernel), .inl rfl, rd225, by decide, fun c fl => ?_⟩)⟩
      obtain ⟨l1, l2⟩ := last3
      cases fl.uniq unB_pos l1
      rw [l2]
      exact q
    walk_at "n"
    rw [show lastF (.str "even") = .tup [.int 0, .int 8] from congrArg (fun x => D.tup [.int 0, .int x]) (show readI "even" 8 2 = 8 by decide +kernel), show lastF (.str "away") = .tup [.int 0, .int 9] from congrArg (fun x => D.tup [.int 0, .int x]) (show readI "away" 8 2 = 9 by decide +kernel), show lastF (.str "odd") = .tup [.int 0, .int 9] from congrArg (fun x => D.tup [.int 0, .int x]) (show readI "odd" 8 2 = 9 by decide +kernel)]
    refine ⟨by decide, by decide, by decide, by decide, eqD_same 3 rfl ?_⟩
    exact k _
theorem at_law (T : Txt K mg) (B : BaseT K mg base) (KX : K.In base) (PS : Sup P mf) (A__law_deck : FnAt P w K mg base 1 "_law_deck" ["_law_script"] sp__law_deck) (A__law_form : FnAt P w K mg base 2 "_law_form" ["_law_deck_here"] sp__law_form) (A__law_numbers : FnAt P w K mg base 1 "_law_numbers" ["_law_form_here"] sp__law_numbers) (A__law_text : FnAt P w K mg base 3 "_law_text" ["_law_deck_here", "_law_values"] sp__law_text) (A__law_draw : FnAt P w K mg base 1 "_law_draw" ["_law_deck_here", "_law_many"] sp__law_draw) (A__law_code : FnAt P w K mg base 2 "_law_code" ["_law_values", "_law_way", "_law_num", "_law_den"] sp__law_code) (A_read_text : FnAt P w K mg base 6 "read_text" ["form", "way", "value"] sp_read_text) (A__law_fails : FnAt P w K mg base 7 "_law_fails" ["_law_form_here", "_law_way", "_law_value"] sp__law_fails) : FnAt P w K mg base 8 "law" ["_law_script"] sp_law :=
  fn_at (c := c_law) T.d_law sc_law (fun f cdv A outer s H E hr => by
    have nd := sc_law.nd
    exact (css_cons (cs_set nd (ce_f A__law_deck hr (ca_cons (ce_v 0) ca_nil)))
    (css_cons (cs_for hr.p rfl (ci_r1 T.n_range (ca_cons ce_i ca_nil)) (cg_n 2 nd)
    (css_cons (cs_set nd (ce_f A__law_form hr (ca_cons (ce_v 1) ca_nil)))
    (css_cons (cs_set nd (ce_f A__law_numbers hr (ca_cons (ce_v 3) ca_nil)))
    (css_cons (cs_for hr.p rfl (ci_r1 T.n_range (ca_cons ce_i ca_nil)) (cg_n 5 nd)
    (css_cons (cs_asg (ce_f A__law_text hr (ca_cons (ce_v 1) (ca_cons (ce_v 4) ca_nil))) (cg_u rfl (cgs_cons (cg_n 6 nd) (cgs_cons (cg_n 7 nd) cgs_nil))))
    (css_cons (cs_set nd (ce_ix (CE.bo (ce_lst (ca_cons ce_s (ca_cons ce_s (ca_cons ce_s ca_nil))))) (ce_f A__law_draw hr (ca_cons (ce_v 1) (ca_cons ce_i ca_nil)))))
    (css_one (cs_for hr.p rfl (ci_e (ce_lst (ca_cons ce_s (ca_cons ce_s (ca_cons ce_s (ca_cons ce_s (ca_cons ce_s ca_nil))))))) (cg_n 9 nd)
    (css_cons (cs_set nd (ce_tup (ca_cons (ce_bt bt_int T.n_int (cba_cons (CE.bo (ce_cmp (op_eqDD hr.g.units) (CE.bo (ce_v 8)) (CE.bo ce_s))) cba_nil)) (ca_cons (ce_f A__law_code hr (ca_cons (ce_v 4) (ca_cons (ce_v 9) (ca_cons (ce_ix (CE.bo (ce_v 7)) ce_i) (ca_cons (ce_ix (CE.bo (ce_v 7)) ce_i) ca_nil))))) ca_nil))))
    (css_cons (cs_if (ct_cmp (op_neDD hr.g.units) (CE.bo (ce_bf (bf_repr hr.g T.lim) T.n_repr (cba_cons (CE.bo (ce_lc rfl nd (own := [("_law_again", 13)]) (ci_r1 T.n_range (ca_cons ce_i ca_nil)) (blkOk_by (N := ["_law_script", "_law_deck_here", "_law_turn", "_law_form_here", "_law_values", "_law_k", "_law_text_here", "_law_number", "_law_front", "_law_way", "_law_due", "_law_value", "_law_place", "_law_again"]) (sc := defScope s_law) (own := [("_law_again", 13)]) (by decide +kernel)) (fun _ _ _ _ _ => (cgk_n 13 nd)) (fun _ _ _ _ _ => cts_nil) (fun _ _ _ _ _ => (ce_f A_read_text hr.b (ca_cons (ce_v 3) (ca_cons (ce_v 9) (ca_cons (ce_op op_addD (CE.bo (ce_v 8)) (CE.bo (ce_v 6))) ca_nil))))))) cba_nil))) (CE.bo (ce_bf (bf_repr hr.g T.lim) T.n_repr (cba_cons (CE.bo (ce_lst (ca_cons (ce_v 10) (ca_cons (ce_v 10) ca_nil)))) cba_nil))))
    (css_one (cs_ret (CE.bo ce_b)))
    css_nil)
    (css_one (cs_if (ct_cmp (op_neDD hr.g.units) (CE.bo (ce_bf (bf_repr hr.g T.lim) T.n_repr (cba_cons (CE.bo (ce_f A_read_text hr (ca_cons (ce_v 3) (ca_cons (ce_v 9) (ca_cons (ce_op op_addD (CE.bo (ce_v 8)) (CE.bo ce_s)) ca_nil))))) cba_nil))) (CE.bo (ce_bf (bf_repr hr.g T.lim) T.n_repr (cba_cons (CE.bo (ce_tup (ca_cons (ce_ix (CE.bo (ce_v 10)) ce_i) (ca_cons (ce_op op_subD (CE.bo (ce_bf bf_len T.n_len (cba_cons (CE.bo (ce_v 4)) cba_nil))) (CE.bo ce_i)) ca_nil)))) cba_nil))))
    (css_one (cs_ret (CE.bo ce_b)))
    css_nil)))))))))
    (css_one (cs_for hr.p rfl (ci_e (ce_lst (ca_cons (ce_lst (ca_cons ce_s (ca_cons ce_i ca_nil))) (ca_cons (ce_lst (ca_cons ce_s (ca_cons ce_i ca_nil))) (ca_cons (ce_lst (ca_cons ce_n (ca_cons ce_n ca_nil))) (ca_cons (ce_lst (ca_cons ce_i (ca_cons ce_n ca_nil))) (ca_cons (ce_lst (ca_cons ce_s (ca_cons ce_i ca_nil))) (ca_cons (ce_lst (ca_cons ce_s (ca_cons ce_i ca_nil))) ca_nil)))))))) (cg_u rfl (cgs_cons (cg_n 11 nd) (cgs_cons (cg_n 12 nd) cgs_nil)))
    (css_one (cs_if (ct_cmp (op_neDD hr.g.units) (CE.bo (ce_f A__law_fails hr (ca_cons (ce_v 3) (ca_cons ce_s (ca_cons (ce_v 11) ca_nil))))) (CE.bo (ce_v 12)))
    (css_one (cs_ret (CE.bo ce_b)))
    css_nil))))))))
    (css_one (cs_ret (CE.bo (ce_cmp (op_eqDD hr.g.units) (CE.bo (ce_lc rfl nd (own := [("_law_way", 9)]) (ci_e (ce_tup (ca_cons ce_s (ca_cons ce_s (ca_cons ce_s ca_nil))))) (blkOk_by (N := ["_law_script", "_law_deck_here", "_law_turn", "_law_form_here", "_law_values", "_law_k", "_law_text_here", "_law_number", "_law_front", "_law_way", "_law_due", "_law_value", "_law_place", "_law_again"]) (sc := defScope s_law) (own := [("_law_way", 9)]) (by decide +kernel)) (fun _ _ _ _ _ => (cgk_n 9 nd)) (fun _ _ _ _ _ => cts_nil) (fun _ _ _ _ _ => (ce_f A_read_text hr.b (ca_cons (ce_tup (ca_cons ce_i (ca_cons (ce_un un_negD (CE.bo ce_i)) (ca_cons ce_i ca_nil)))) (ca_cons (ce_v 9) (ca_cons ce_s ca_nil))))))) (CE.bo (ce_lst (ca_cons (ce_tup (ca_cons ce_i (ca_cons ce_i ca_nil))) (ca_cons (ce_tup (ca_cons ce_i (ca_cons ce_i ca_nil))) (ca_cons (ce_tup (ca_cons ce_i (ca_cons ce_i ca_nil))) ca_nil))))))))))))
    (fun ds hc Q E h => len_law h) (fun ds hc Q E h => pure_law h) (fun _ _ _ _ _ _ us hl => match us, hl with | [_], _ => rfl)
open H
theorem txt_of {h : Heap} (X : K.In h) (G : h.Ns mainGlobals mg) (v : SaysT fa fn tc K h) (l : ∀ x ∈ lm, lamN K x = true) (o : ∀ d ∈ ini, ownB K mf d = true ∧ iniW K d.x = d.val) (fvk : FvOk K fvL) : Txt K mg :=
  have u := v.1
  {
    d__law_deck := by
      obtain ⟨fd, F⟩ := u.d.def_ 0 (d := dd__law_deck) rfl
      exact ⟨_, fd, F, He.glo_ok X G (u.d.fact 0 (f := .glo "_law_deck") rfl)⟩
    d__law_draw := by
      obtain ⟨fd, F⟩ := u.d.def_ 1 (d := dd__law_draw) rfl
      exact ⟨_, fd, F, He.glo_ok X G (u.d.fact 1 (f := .glo "_law_draw") rfl)⟩
    d__law_form := by
      obtain ⟨fd, F⟩ := u.d.def_ 2 (d := dd__law_form) rfl
      exact ⟨_, fd, F, He.glo_ok X G (u.d.fact 2 (f := .glo "_law_form") rfl)⟩
    d__law_numbers := by
      obtain ⟨fd, F⟩ := u.d.def_ 3 (d := dd__law_numbers) rfl
      exact ⟨_, fd, F, He.glo_ok X G (u.d.fact 3 (f := .glo "_law_numbers") rfl)⟩
    d__law_power := by
      obtain ⟨fd, F⟩ := u.d.def_ 4 (d := dd__law_power) rfl
      exact ⟨_, fd, F, He.glo_ok X G (u.d.fact 4 (f := .glo "_law_power") rfl)⟩
    d__law_near_middle := by
      obtain ⟨fd, F⟩ := u.d.def_ 5 (d := dd__law_near_middle) rfl
      exact ⟨_, fd, F, He.glo_ok X G (u.d.fact 5 (f := .glo "_law_near_middle") rfl)⟩
    d__law_text := by
      obtain ⟨fd, F⟩ := u.d.def_ 6 (d := dd__law_text) rfl
      exact ⟨_, fd, F, He.glo_ok X G (u.d.fact 6 (f := .glo "_law_text") rfl)⟩
    d__law_between := by
      obtain ⟨fd, F⟩ := u.d.def_ 7 (d := dd__law_between) rfl
      exact ⟨_, fd, F, He.glo_ok X G (u.d.fact 7 (f := .glo "_law_between") rfl)⟩
    d__law_code := by
      obtain ⟨fd, F⟩ := u.d.def_ 8 (d := dd__law_code) rfl
      exact ⟨_, fd, F, He.glo_ok X G (u.d.fact 8 (f := .glo "_law_code") rfl)⟩
    d_scan_word := by
      obtain ⟨fd, F⟩ := u.d.def_ 9 (d := dd_scan_word) rfl
      exact ⟨_, fd, F, He.glo_ok X G (u.d.fact 9 (f := .glo "scan_word") rfl)⟩
    d_scan_digits := by
      obtain ⟨fd, F⟩ := u.d.def_ 10 (d := dd_scan_digits) rfl
      exact ⟨_, fd, F, He.glo_ok X G (u.d.fact 10 (f := .glo "scan_digits") rfl)⟩
    d_scan_power := by
      obtain ⟨fd, F⟩ := u.d.def_ 11 (d := dd_scan_power) rfl
      exact ⟨_, fd, F, He.glo_ok X G (u.d.fact 11 (f := .glo "scan_power") rfl)⟩
    d_scan_hex := by
      obtain ⟨fd, F⟩ := u.d.def_ 12 (d := dd_scan_hex) rfl
      exact ⟨_, fd, F, He.glo_ok X G (u.d.fact 12 (f := .glo "scan_hex") rfl)⟩
    d_scan_decimal := by
      obtain ⟨fd, F⟩ := u.d.def_ 13 (d := dd_scan_decimal) rfl
      exact ⟨_, fd, F, He.glo_ok X G (u.d.fact 13 (f := .glo "scan_decimal") rfl)⟩
    d_parse_text := by
      obtain ⟨fd, F⟩ := u.d.def_ 14 (d := dd_parse_text) rfl
      exact ⟨_, fd, F, He.glo_ok X G (u.d.fact 14 (f := .glo "parse_text") rfl)⟩
    d_half_of := by
      obtain ⟨fd, F⟩ := u.d.def_ 15 (d := dd_half_of) rfl
      exact ⟨_, fd, F, He.glo_ok X G (u.d.fact 15 (f := .glo "half_of") rfl)⟩
    d_count_of := by
      obtain ⟨fd, F⟩ := u.d.def_ 16 (d := dd_count_of) rfl
      exact ⟨_, fd, F, He.glo_ok X G (u.d.fact 16 (f := .glo "count_of") rfl)⟩
    d_ten := by
      obtain ⟨fd, F⟩ := u.d.def_ 17 (d := dd_ten) rfl
      exact ⟨_, fd, F, He.glo_ok X G (u.d.fact 17 (f := .glo "ten") rfl)⟩
    d_fraction_of := by
      obtain ⟨fd, F⟩ := u.d.def_ 18 (d := dd_fraction_of) rfl
      exact ⟨_, fd, F, He.glo_ok X G (u.d.fact 18 (f := .glo "fraction_of") rfl)⟩
    d_is_below := by
      obtain ⟨fd, F⟩ := u.d.def_ 19 (d := dd_is_below) rfl
      exact ⟨_, fd, F, He.glo_ok X G (u.d.fact 19 (f := .glo "is_below") rfl)⟩
    d_exponent_at := by
      obtain ⟨fd, F⟩ := u.d.def_ 20 (d := dd_exponent_at) rfl
      exact ⟨_, fd, F, He.glo_ok X G (u.d.fact 20 (f := .glo "exponent_at") rfl)⟩
    d_position_at := by
      obtain ⟨fd, F⟩ := u.d.def_ 21 (d := dd_position_at) rfl
      exact ⟨_, fd, F, He.glo_ok X G (u.d.fact 21 (f := .glo "position_at") rfl)⟩
    d_nearest := by
      obtain ⟨fd, F⟩ := u.d.def_ 22 (d := dd_nearest) rfl
      exact ⟨_, fd, F, He.glo_ok X G (u.d.fact 22 (f := .glo "nearest") rfl)⟩
    d_rounded_by := by
      obtain ⟨fd, F⟩ := u.d.def_ 23 (d := dd_rounded_by) rfl
      exact ⟨_, fd, F, He.glo_ok X G (u.d.fact 23 (f := .glo "rounded_by") rfl)⟩
    d_read_position := by
      obtain ⟨fd, F⟩ := u.d.def_ 24 (d := dd_read_position) rfl
      exact ⟨_, fd, F, He.glo_ok X G (u.d.fact 24 (f := .glo "read_position") rfl)⟩
    d_read_fraction := by
      obtain ⟨fd, F⟩ := u.d.def_ 25 (d := dd_read_fraction) rfl
      exact ⟨_, fd, F, He.glo_ok X G (u.d.fact 25 (f := .glo "read_fraction") rfl)⟩
    d_read := by
      obtain ⟨fd, F⟩ := u.d.def_ 26 (d := dd_read) rfl
      exact ⟨_, fd, F, He.glo_ok X G (u.d.fact 26 (f := .glo "read") rfl)⟩
    d_read_text := by
      obtain ⟨fd, F⟩ := u.d.def_ 27 (d := dd_read_text) rfl
      exact ⟨_, fd, F, He.glo_ok X G (u.d.fact 27 (f := .glo "read_text") rfl)⟩
    d__law_fails := by
      obtain ⟨fd, F⟩ := u.d.def_ 28 (d := dd__law_fails) rfl
      exact ⟨_, fd, F, He.glo_ok X G (u.d.fact 28 (f := .glo "_law_fails") rfl)⟩
    d_law := by
      obtain ⟨fd, F⟩ := u.d.def_ 29 (d := dd_law) rfl
      exact ⟨_, fd, F, He.glo_ok X G (u.d.fact 29 (f := .glo "law") rfl)⟩
    n_abs := He.free_ok X G (u.d.fact 30 (f := .free "abs") rfl)
    n_divmod := He.free_ok X G (u.d.fact 31 (f := .free "divmod") rfl)
    n_enumerate := He.free_ok X G (u.d.fact 32 (f := .free "enumerate") rfl)
    n_int := He.free_ok X G (u.d.fact 33 (f := .free "int") rfl)
    n_isinstance := He.free_ok X G (u.d.fact 34 (f := .free "isinstance") rfl)
    n_len := He.free_ok X G (u.d.fact 35 (f := .free "len") rfl)
    n_max := He.free_ok X G (u.d.fact 36 (f := .free "max") rfl)
    n_min := He.free_ok X G (u.d.fact 37 (f := .free "min") rfl)
    n_range := He.free_ok X G (u.d.fact 38 (f := .free "range") rfl)
    n_repr := He.free_ok X G (u.d.fact 39 (f := .free "repr") rfl)
    n_str := He.free_ok X G (u.d.fact 40 (f := .free "str") rfl)
    n_super := He.free_ok X G (u.d.fact 41 (f := .free "super") rfl)
    k_DIGITS := GlobC.str (He.str_ok X G (u.d.fact 42 (f := .str "DIGITS" "0123456789") rfl))
    k_HEX_DIGITS := GlobC.str (He.str_ok X G (u.d.fact 43 (f := .str "HEX_DIGITS" "0123456789abcdef") rfl))
    k_MOST_DIGITS := GlobC.int (He.int_ok X G (u.d.fact 44 (f := .int "MOST_DIGITS" 1300) rfl))
    k_MOST_HEX := GlobC.int (He.int_ok X G (u.d.fact 45 (f := .int "MOST_HEX" 300) rfl))
    k_MOST_HEX_POWER := GlobC.int (He.int_ok X G (u.d.fact 46 (f := .int "MOST_HEX_POWER" 1400) rfl))
    k_MOST_POWER := GlobC.int (He.int_ok X G (u.d.fact 47 (f := .int "MOST_POWER" 1200) rfl))
    lim := u.s
    tnd := v.2.1
    x_BadText := ownC_of (d := ini_BadText) (o ini_BadText (by simp [ini])).1 (o ini_BadText (by simp [ini])).2 t_BadText (He.glo_ok X G (u.d.fact 48 (f := .glo "BadText") rfl))
    e_BadText_BadText := ⟨_, _, He.glo_ok X G (u.d.fact 48 (f := .glo "BadText") rfl), He.glo_ok X G (u.d.fact 48 (f := .glo "BadText") rfl), of_decide_eq_true (u.d.fact 49 (f := .exm "BadText" "BadText" true) rfl)⟩
    g_BadText := ⟨_, He.glo_ok X G (u.d.fact 48 (f := .glo "BadText") rfl)⟩
    fv := fvk }
theorem law_at (T : Txt K mg) (B : BaseT K mg base) (KX : K.In base) (PS : Sup P mf) : FnAt P w K mg base 8 "law" ["_law_script"] sp_law := by
  have A__law_deck := at__law_deck (P := P) (w := w) (base := base) T B KX PS 
  have A__law_draw := at__law_draw (P := P) (w := w) (base := base) T B KX PS 
  have A__law_form := at__law_form (P := P) (w := w) (base := base) T B KX PS A__law_draw
  have A__law_numbers := at__law_numbers (P := P) (w := w) (base := base) T B KX PS 
  have A__law_power := at__law_power (P := P) (w := w) (base := base) T B KX PS 
  have A__law_near_middle := at__law_near_middle (P := P) (w := w) (base := base) T B KX PS A__law_draw A__law_power
  have A__law_text := at__law_text (P := P) (w := w) (base := base) T B KX PS A__law_draw A__law_near_middle A__law_power
  have A__law_between := at__law_between (P := P) (w := w) (base := base) T B KX PS 
  have A__law_code := at__law_code (P := P) (w := w) (base := base) T B KX PS A__law_between
  have A_scan_word := at_scan_word (P := P) (w := w) (base := base) T B KX PS 
  have A_scan_digits := at_scan_digits (P := P) (w := w) (base := base) T B KX PS 
  have A_scan_power := at_scan_power (P := P) (w := w) (base := base) T B KX PS 
  have A_scan_hex := at_scan_hex (P := P) (w := w) (base := base) T B KX PS A_scan_digits A_scan_power
  have A_scan_decimal := at_scan_decimal (P := P) (w := w) (base := base) T B KX PS A_scan_digits A_scan_power
  have A_parse_text := at_parse_text (P := P) (w := w) (base := base) T B KX PS A_scan_word A_scan_hex A_scan_decimal
  have A_half_of := at_half_of (P := P) (w := w) (base := base) T B KX PS 
  have A_count_of := at_count_of (P := P) (w := w) (base := base) T B KX PS A_half_of
  have A_ten := at_ten (P := P) (w := w) (base := base) T B KX PS 
  have A_fraction_of := at_fraction_of (P := P) (w := w) (base := base) T B KX PS A_ten
  have A_is_below := at_is_below (P := P) (w := w) (base := base) T B KX PS 
  have A_exponent_at := at_exponent_at (P := P) (w := w) (base := base) T B KX PS A_is_below
  have A_position_at := at_position_at (P := P) (w := w) (base := base) T B KX PS A_exponent_at A_half_of
  have A_nearest := at_nearest (P := P) (w := w) (base := base) T B KX PS 
  have A_rounded_by := at_rounded_by (P := P) (w := w) (base := base) T B KX PS A_nearest
  have A_read_position := at_read_position (P := P) (w := w) (base := base) T B KX PS A_count_of A_rounded_by
  have A_read_fraction := at_read_fraction (P := P) (w := w) (base := base) T B KX PS A_position_at A_read_position
  have A_read := at_read (P := P) (w := w) (base := base) T B KX PS A_fraction_of A_read_fraction
  have A_read_text := at_read_text (P := P) (w := w) (base := base) T B KX PS A_parse_text A_count_of A_read A_read_fraction
  have A__law_fails := at__law_fails (P := P) (w := w) (base := base) T B KX PS A_read_text
  have A_law := at_law (P := P) (w := w) (base := base) T B KX PS A__law_deck A__law_form A__law_numbers A__law_text A__law_draw A__law_code A_read_text A__law_fails
  exact A_law
end Lk14
open PySem PySem.W PySem.Calls PyProof.Rows
set_option maxHeartbeats 0 in
theorem PySem.Challenge.cw_numbertexts_k14_texts_read_holds : PySem.Challenge.rw_numbertexts_k14_texts_read.Holds := by
  w_on; o_law
  refine HandSHeadRun.head_any (r := OpenLaw.row PySem.Challenge.rw_numbertexts_k14_texts_read) (q := view (OpenLaw.row PySem.Challenge.rw_numbertexts_k14_texts_read).prog [44]) (H := Lk14.H.hk) (ob := Lk14.H.ob) (M := 5800) (loose := Lk14.H.loose) (d := HandSHeadRun.topDef (OpenLaw.row PySem.Challenge.rw_numbertexts_k14_texts_read).prog 44) (kwd := []) Lk14.H.ob_eq
    (by kernel_rfl) (fun s => by kernel_rfl) Lk14.H.run (by kernel_rfl) (by kernel_rfl) (by kernel_rfl) (by rfl) (by first | assumption | decide +kernel) (by decide +kernel) ⟨rfl, rfl, rfl, rfl, rfl, by decide +kernel⟩ ?hw ?hc
  case hw => w_witness2
  case hc =>
    refine Mn.walkT (l := PySem.Challenge.rw_numbertexts_k14_texts_read) (n := 63) (k := 8) (x := "_law_script") rfl (by decide) (by kernel_rfl) ⟨rfl, by decide, by decide⟩ ?F
    intro w mg fa h Y G hmg0
    obtain ⟨K, KX, c, lmk, ox, fvk⟩ := Y
    have hmg : mg ("law" : PySem.Str) = some (.ref fa) := by
      have e : (HandSHeadRun.topDef (OpenLaw.row PySem.Challenge.rw_numbertexts_k14_texts_read).prog 44).name = ("law" : PySem.Str) := by kernel_rfl
      rw [← e]
      exact hmg0
    have T := Lk14.txt_of KX G c lmk ox fvk
    exact Mn.law_finT KX c.2.2 T.d_law hmg (fun _ _ _ _ _ _ us hl => match us, hl with | [_], _ => rfl) fun base KB B => Lk14.law_at (P := (PySem.Challenge.rw_numbertexts_k14_texts_read).prog) (w := w) (base := base) T B KB ⟨by kernel_rfl, by kernel_rfl⟩
