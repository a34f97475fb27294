import PyProof.Rows.All
import Wide.All
import OpenK.AllK
import Wide.FinOn
import KE.KStateDown
import HandS.Base
import HandS.Call
import HandS.List
import HandS.Comp
import HandS.Ends
import HandS.Dict
import HandS.Iter
import HandS.Walk
import HandS.Text
import HandS.Words
import HandS.WordsList
import HandS.WordsDict
import HandS.Exc
import HandS.TryOnly
import HandS.TryMany
import HandS.ExcOwn
import HandS.WordsExc
import HandS.IsInst
import HandS.ExcIs
import HandS.Flow
import HandS.More
import HandS.Wide
import HandS.SortInts
import HandS.SortRule
import HandS.Defaults
import HandS.Head0
import HandS.Head1
import HandS.Head2
import HandS.HeadEnd
import HandS.HeadHook1
import HandS.HeadHook2
import KE.KDictCopyH
import KE.GoesMore
import HandS.RaiseMore
import HandS.SuiteRaise
import KE.KListMore
import PySem.Challenge.RW_cellkeep_k28_programs_read
set_option Elab.async false
set_option linter.all false
set_option maxRecDepth 100000
set_option maxHeartbeats 4000000
namespace G
open PySem PySem.Spec PyProof.Rows L2

/-! ## a caught exception as a tracked thing -/
/-- an exception object of class cls stands at a -/
def ExA (cls : Value) (a : Addr) : HO := .ext fun h => ∃ (o : Obj) (fv : Array Value), h.get? a = some o ∧ Zc cls none o ∧ o.data = .fields fv
theorem exA_ok {P : Program} {w : World} {H : Hp} {h : Heap} {a : Addr} {cls : Value} {o : Obj} {fv : Array Value} (e : h.get? a = some o) (z : Zc cls none o) (d : o.data = .fields fv) : ObjOk P w H h a (ExA cls a) :=
  ⟨⟨o, fv, e, z, d⟩, ⟨o, e⟩, fun _ _ ⟨o', fv', e', z', d'⟩ k => ⟨o', fv', k _ e', z', d'⟩⟩

section
variable {X : Cx} {pins : List (Addr × Obj)} {σ : L2.St} {H : Hp} {s : Shared}
/-- an object that stands untracked is tracked from now on -/
theorem track {a : Addr} {u : HO} (I : Inv X pins σ H s) (na : H a = none) (n0 : X.s_0.heap.get? a = none) (nL : a ≠ X.env.locals) (nC : ∀ x c, X.env.cells.lookup x = some c → c ≠ a)
    (nP : ∀ p ∈ X.pn ++ pins, p.1 ≠ a) (new : ObjOk X.prog X.w (upd H a u) s.heap a u) : Inv X pins σ (upd H a u) s := by
  have ne0 : ∀ b o, X.s_0.heap.get? b = some o → b ≠ a := fun b o e z => by rw [z, n0] at e; cases e
  have neH : ∀ b o, H b = some o → b ≠ a := fun b o e z => by rw [z, na] at e; cases e
  refine ⟨I.ok, I.os, I.bare, ⟨I.base.keep, I.base.slot, ?_, I.base.there, ?_, ?_, ?_⟩, I.loc, I.cell, ?_, ?_, ?_, ?_, I.len⟩
  · intro b o e n hx
    rw [upd_ne (ne0 b o e)]
    exact I.base.free b o e n hx
  · intro b xs e
    have q := I.base.tups b xs e
    rw [upd_ne (neH b _ q)]
    exact q
  · intro b o u' e
    have q := I.base.frzs b o u' e
    rw [upd_ne (neH b _ q)]
    exact q
  · intro b ps e
    obtain ⟨m, q⟩ := I.base.tbls b ps e
    exact ⟨m, by rw [upd_ne (neH b _ q)]; exact q⟩
  · rw [upd_ne (Ne.symm nL)]
    exact I.free
  · intro x c e
    rw [upd_ne (nC x c e)]
    exact I.freeC x c e
  · intro p hp
    obtain ⟨e, n, ne, nf, d⟩ := I.pin p hp
    exact ⟨e, by rw [upd_ne (nP p hp)]; exact n, ne, nf, d⟩
  · intro b o e
    by_cases hb : b = a
    · subst hb
      rw [upd_same] at e
      cases e
      exact new
    · rw [upd_ne hb] at e
      refine (I.hok b o e).stay (fun _ _ _ z => z) (fun c z => ?_) fun c xs z => ?_
      · rw [upd_ne (neH c _ z)]
        exact z
      · rw [upd_ne (neH c _ z)]
        exact z
/-- a list that was laid since the def began is forgotten -/
theorem forget {a : Addr} {xs : List V} (I : Inv X pins σ (upd H a (.lst xs)) s) (na : H a = none) (n0 : X.H_0 a = none) : Inv X pins σ H s := by
  have back : ∀ b, b ≠ a → upd H a (.lst xs) b = H b := fun b hb => upd_ne hb
  have nn : ∀ b, upd H a (.lst xs) b = none → H b = none := fun b e => by
    by_cases hb : b = a
    · rw [hb, upd_same] at e
      cases e
    · rw [upd_ne hb] at e
      exact e
  refine ⟨I.ok, I.os, I.bare, ⟨I.base.keep, I.base.slot, fun b o e n hx => nn b (I.base.free b o e n hx), I.base.there, ?_, ?_, ?_⟩, I.loc, I.cell, nn _ I.free, fun x c e => nn _ (I.freeC x c e), fun p hp => ?_, ?_, I.len⟩
  · intro b ys e
    rw [← back b (fun z => by rw [z, n0] at e; cases e)]
    exact I.base.tups b ys e
  · intro b o u' e
    rw [← back b (fun z => by rw [z, n0] at e; cases e)]
    exact I.base.frzs b o u' e
  · intro b ps e
    rw [← back b (fun z => by rw [z, n0] at e; cases e)]
    exact I.base.tbls b ps e
  · obtain ⟨e, n, r⟩ := I.pin p hp
    exact ⟨e, nn _ n, r⟩
  · intro b o e
    have hb : b ≠ a := fun z => by rw [z, na] at e; cases e
    have q : upd H a (.lst xs) b = some o := by rw [upd_ne hb]; exact e
    refine (I.hok b o q).stay (fun _ _ _ z => z) (fun c z => ?_) fun c ys z => ?_
    · rw [← back c (fun y => by rw [y, upd_same] at z; cases z)]
      exact z
    · rw [← back c (fun y => by rw [y, upd_same] at z; cases z)]
      exact z
/-- what a fresh address of now was ahead of the def -/
theorem fresh0 {a : Addr} (I : Inv X pins σ H s) (na : H a = none) (nt : ∀ o, X.H_0 a = some o → ∃ ob, X.s_0.heap.get? a = some ob) (hs : s.heap.objs.size ≤ a) : X.H_0 a = none := by
  cases e : X.H_0 a with
  | none => rfl
  | some o =>
    obtain ⟨ob, q⟩ := nt o e
    exact absurd (Nat.lt_of_lt_of_le (Heap.lt_size q) (Nat.le_trans I.sz hs)) (Nat.lt_irrefl _)
end
end G
namespace G
open PySem PySem.Spec PyProof.Rows L2
/-! ## a display that is subscripted at once -/
section
variable {X : Cx} {pins : List (Addr × Obj)} {σ : L2.St} {H : Hp} {s : Shared}
theorem itemAt {value slice : Expr} {E : Value → Shared → Prop} {Q : Value → Shared → Prop} {p : Addr} {xs : List V} {its : List Value} {i : Int} {t : Tok} {z : V} (r : Vals xs its) (pl : PlainL s.heap p its.toArray) (hz : xs.length ≤ sizeLine) (he : atI xs i = some z)
    (fin : ∀ w, RelV z w → Q w s) (hs : subscripted slice false (.ref p) (.int i t) = operate [.ref p, .int i t] (getItem (.ref p) (.int i t))) :
    wpAny (model X.prog X.w) X.A (subscriptTail value slice (.ref p) (.int i t)) Q E s := by
  obtain ⟨j, g1, g2, g3, g4, g5⟩ := atI_get he
  obtain ⟨u, eu, ru⟩ := r.get g2
  have ln := r.length
  have big := line63
  by_cases c : 0 ≤ i
  · have ej : i.toNat = j := Option.some.inj ((seqIndex_of c g5).symm.trans g1)
    exact item_listR pl.isList c (by omega) (by subst ej; simpa using eu) (fin u ru) hs
  · have ej : (i + (its.toArray.size : Int)).toNat = j := by
      have z1 := (seqIndex_neg (by omega) g4).symm.trans g1
      simp only [List.size_toArray, ← ln]
      exact Option.some.inj z1
    refine subscriptTail_builtinR (x := u) pl.isList.typeIs slot_list_getitem.lookup ?_ hs
    refine wpAny_getItem_list_neg (Q := fun r s' => r = u ∧ Q r s') pl.isList (by omega) ?_ (by omega) (by subst ej; simpa using eu) ⟨rfl, fin u ru⟩
    simp only [List.size_toArray]
    omega
/-- [a, b, ..][i]: the list is never seen again -/
def tMenu (ta : TA) (ti : TE) : TE := fun σ H Q => ta σ H fun xs H1 => xs.length ≤ sizeLine ∧ ti σ H1 fun y H2 => ∃ i v, y = .int i ∧ atI xs i = some v ∧ Q v H2
theorem pe_menu {es : List Expr} {b : Expr} {ta : TA} {tb : TE} {p1 pos : Pos} (ha : PA X es ta) (hb : PE X b tb) (hs : PlainIx b) : PE X (.Subscript (.List es p1) b pos) (tMenu ta tb) := by
  refine ⟨fun pins s σ H Q I h => ?_⟩
  refine Subscript_ (wpAny_List_spliced (thn (ha.run p1 pins s σ H _ I h) fun us s1 ⟨xs, H1, I1, r, z, q⟩ => ⟨by rw [← r.length]; exact z, ?_⟩))
  have hf : H1 s1.heap.objs.size = none := I1.hok.fresh (Nat.le_refl _)
  have I2 : Inv X pins σ H1 { s1 with heap := s1.heap.push { cls := .type "list", data := .seq us.toArray } } := I1.kept (t' := s1.toks) fun _ _ e => Heap.get?_push_of_some _ e
  have eo : (s1.heap.push { cls := .type "list", data := .seq us.toArray }).get? s1.heap.objs.size = some { cls := .type "list", data := .seq us.toArray } := Heap.get?_push_size _ rfl
  have I3 := I2.pinned (fp := [s1.heap.objs.size]) (fun b hb => by
    have e : b = s1.heap.objs.size := by simpa using hb
    subst e
    exact I1.fpOk (Nat.le_refl _) hf) fun b hb => by
    have e : b = s1.heap.objs.size := by simpa using hb
    subst e
    exact ⟨_, eo, fun v z => by cases z⟩
  refine thn (hb.run _ _ σ H1 _ I3 q) fun u s2 ⟨y, H2, I4, ry, i, v, ey, hv, q2⟩ => ?_
  subst ey
  obtain ⟨t, rfl⟩ := ry
  have e2 : s2.heap.get? s1.heap.objs.size = some { cls := .type "list", data := .seq us.toArray } :=
    (I4.pin (s1.heap.objs.size, _) (List.mem_append_right _ (List.mem_append_right _ (mem_pinsAt (List.mem_cons_self) eo)))).1
  exact itemAt r ⟨_, _, e2, rfl, rfl, rfl⟩ z hv (fun w rw' => ⟨v, H2, I4.unpinned, rw', q2⟩) (hs _ _)
end
/-! ## defs that may be called while an exception is handled: they raise nothing -/
structure RoomN (k : Nat) (A : Around) : Prop where
  dp : A.depth + 3 * k + 5 < recursionLimit
  un : A.units + 16 * k + 200 < cLine
theorem roomN_of {k : Nat} {A : Around} (r : Room k A) : RoomN k A := ⟨r.dp, r.un⟩
theorem roomN_mark {k : Nat} {A : Around} {v : Option Value} (r : Room k A) : RoomN k (A.mark v) := ⟨r.dp, r.un⟩
theorem RoomN.mono {j k : Nat} {A : Around} (r : RoomN k A) (h : j ≤ k) : RoomN j A := ⟨by have := r.dp; omega, by have := r.un; omega⟩
theorem RoomN.deeper {k : Nat} {A : Around} (r : RoomN (k + 1) A) (env : Env) : RoomN k (A.deeper env) :=
  ⟨by have h := r.dp; show A.depth + 1 + (3 * k + 5) < _; omega, by have h := r.un; show A.units + 3 + (16 * k + 200) < _; omega⟩
abbrev cxN (P : Program) (w : World) (K : PySem.W.Frag) (mg : Str → Option Value) (base : Heap) (N : List Str) (qual : Str) (scope : Scope) (f : Addr) (cd : Value) (A : Around) (outer : List Env) (s : Shared) (H : Hp) : Cx :=
  { cxOf CX0 P w K mg base N qual scope f cd A outer s H E0 with calm := false }
structure FnN (P : Program) (w : World) (K : PySem.W.Frag) (mg : Str → Option Value) (base : Heap) (k : Nat) (f : Addr) (fd : FuncData) (ps : List Str) (sp : Sp) : Prop where
  len : ∀ vs H Q E, sp vs H Q E → vs.length = ps.length
  run : ∀ (A : Around) (outer : List Env) (s : Shared) (H : Hp) (args : Args) (us : List Value) (vs : List V) (Q : VK), RoomN k A → Env0 P w K mg base A outer s H → BindsTo s fd args (ps.zip us) → Vals vs us → sp vs H Q E0 →
    codeAny (model P w) A (.call (.ref f) args) (CR CX0 outer P w H s Q E0) s
theorem FnN.mono {P : Program} {w : World} {K : PySem.W.Frag} {mg : Str → Option Value} {base : Heap} {j k : Nat} {f : Addr} {fd : FuncData} {ps : List Str} {sp : Sp} (F : FnN P w K mg base j f fd ps sp) (h : j ≤ k) : FnN P w K mg base k f fd ps sp :=
  ⟨F.len, fun A outer s H args us vs Q hr => F.run A outer s H args us vs Q (hr.mono h)⟩
section
variable {P : Program} {w : World} {K : PySem.W.Frag} {mg : Str → Option Value} {base : Heap}
theorem fn_ofN {x qual : Str} {params : Arguments} {body : List Stmt} {scope : Scope} {dvs : List V} {kws : List (Str × V)} {f : Addr} {fd : FuncData} {N ps : List Str} {k : Nat} {sp : Sp} (F : FunD K x qual params body scope dvs kws f fd) (S : FnScope N ps scope)
    (len : ∀ vs H Q E, sp vs H Q E → vs.length = ps.length)
    (hbody : ∀ (cdv : Value) (A : Around) (outer : List Env) (s : Shared) (H : Hp) (vs : List V) (Q : VK), RoomN k (A.deeper (envOfC qual scope s.heap.objs.size f cdv)) → sp vs H Q E0 →
      ∃ t, PSs (cxN P w K mg base N qual scope f cdv A outer s H) body t ∧ t { nx := fun _ H' => Q .non H', rt := Q } (start N vs) H) : FnN P w K mg base (k + 1) f fd ps sp := by
  obtain ⟨oc, od, dV, kV, doc, pm, an, cdv, ct, osl, rfl, lk, hcd, -, -⟩ := F.ex
  refine ⟨len, fun A outer s H args us vs Q hr e0 hb r hsp => ?_⟩
  have hl := len _ _ _ _ hsp
  have st : ∀ b o, base.get? b = some o → s.heap.get? b = some o := fun b o e => (e0.bs b o e).1
  have KX : K.In s.heap := e0.mod.kin.keeps st
  refine codeAny_call_function (by have := hr.dp; omega) (KX _ _ lk) rfl S.co S.gen rfl (PySem.W.codeRec_of KX hcd) (hb _ _ _ _ ?_)
  refine wpAny_newFunctionEnv_cells S.kind (fun y hy => ?_) fun env he s1 x => ?_
  · rcases S.par y.1 (List.of_mem_zip hy).1 with q | q
    · exact .inl q
    · exact .inr ⟨q, PySem.W.cellsFrom_some _ _ _ (.inl q)⟩
  subst he
  refine ⟨(e0.mod.nolimit.keeps st).keeps x.toInCall.keep, codeAny_func ?_⟩
  obtain ⟨t, ht, hq⟩ := hbody cdv A outer s H vs Q (hr.deeper _) hsp
  have J : Inv (cxOf CX0 P w K mg base N qual scope f cdv { A with handled := none } outer s H E0) [] (start N vs) H s1 := inv_start S rfl ⟨e0.frames, e0.mod, e0.bs, e0.bsz, e0.funs, e0.frf, e0.hok, e0.bare⟩ hl r x
  have I : Inv (cxN P w K mg base N qual scope f cdv A outer s H) [] (start N vs) H s1 :=
    ⟨⟨J.ok.mod, J.ok.kind, J.ok.glob, J.ok.blt, J.ok.above, J.ok.inj, J.ok.has, J.ok.cab, fun z => Bool.noConfusion (show false = true from z), Around.frames_deeper e0.frames, J.ok.stk, J.ok.exf, J.ok.bs, J.ok.bsz, J.ok.noex, J.ok.exfs, J.ok.funs, J.ok.frf⟩,
      J.os, J.bare, J.base, J.loc, J.cell, J.free, J.freeC, J.pin, J.hok, J.len⟩
  refine wpAny_mono (ht.run [] s1 (start N vs) H _ I hq) (fun fl s' hs => ?_) fun e s' hs => hs
  cases fl with
  | ret u =>
    obtain ⟨v, σ', H', J', rv, q⟩ := hs
    exact ⟨v, H', J'.os, J'.bare, J'.base, J'.hok, rv, q⟩
  | next =>
    obtain ⟨σ', H', J', q⟩ := hs
    exact ⟨.non, H', J'.os, J'.bare, J'.base, J'.hok, rfl, q⟩
  | brk => exact hs.elim fun _ z => z.elim fun _ y => y.2.elim
  | cont => exact hs.elim fun _ z => z.elim fun _ y => y.2.elim
/-- as any def -/
theorem FnN.ok {k : Nat} {f : Addr} {fd : FuncData} {ps : List Str} {sp : Sp} (F : FnN P w K mg base k f fd ps sp) (h0 : ∀ vs H Q E, sp vs H Q E → sp vs H Q E0) : FnOk P w K mg base (L2.CX P w) k f fd ps sp :=
  ⟨F.len, fun A outer s H args us vs Q E hr e0 hb r hsp => codeAny_mono (F.run A outer s H args us vs Q (roomN_of hr) e0 hb r (h0 _ _ _ _ hsp)) fun r s' hq => by
    cases r with
    | error e => exact hq.elim
    | ok fl => cases fl with
      | ret u => exact hq
      | next => exact hq.elim
      | brk => exact hq.elim
      | cont => exact hq.elim⟩
end
section
variable {X : Cx} {k : Nat} {f : Addr} {fd : FuncData} {ps : List Str} {sp : Sp} {x : Str} {q pos : Pos} {e : Expr} {es : List Expr} {t : TA}
def tCallN (sp : Sp) (t : TA) : TE := fun σ H Q => t σ H fun vs H1 => sp vs H1 Q E0
theorem pe_callN (F : FnN X.prog X.w X.K X.mg X.base k f fd ps sp) (hr : RoomN k X.A) (hg : Gl X x) (hm : X.mg x = some (.ref f)) (hk : PySem.W.keepIn X.K (.ref f) = true) (hb : Binds X.K fd ps [])
    (ha : PA X (e :: es) t) (hdb : (x == ("__debug__" : Str)) = false := by decide) (he : starEach (e :: es) X.env = (false, eval e X.env) :: starEach es X.env := by rfl) (hpl : (backTo pos (starEach es X.env)).any (·.1) = false := by rfl) :
    PE X (.Call (.Name x q) (e :: es) [] pos) (tCallN sp t) := by
  refine ⟨fun pins s σ H Q I h => ?_⟩
  refine wpAny_Call_Name_kw (ld_glob I hg hm ?_ hdb)
  refine PySem.W.callWith_K (h₀ := X.base) I.ok.mod.kin hk (thn (ha.run pos pins s σ H _ I h) fun us s1 hh => ?_) he hpl
  obtain ⟨vs, H1, I1, r, h2⟩ := hh
  refine ⟨I1.kIn, ?_⟩
  have hl : us.length = ps.length := by rw [← r.length]; exact F.len _ _ _ _ h2
  have b := hb s1 us I1.kIn (by rw [List.append_nil]; exact hl)
  rw [List.append_nil] at b
  refine wpAny_call (codeAny_mono (F.run X.A X.stack s1 H1 ⟨us, []⟩ us vs Q hr I1.env0 b r h2) fun r s' hq => ?_)
  cases r with
  | error e => exact hq.elim
  | ok fl => cases fl with
    | ret u => exact I1.after hq
    | next => exact hq.elim
    | brk => exact hq.elim
    | cont => exact hq.elim
end
end G
namespace G
open PySem PySem.Spec PyProof.Rows L2
/-! ## calls whose exceptions the surroundings take (W) -/
section
variable {X : Cx} {k : Nat} {f C : Addr} {fd : FuncData} {ps : List Str} {sp : Sp} {W : WX} {x m : Str} {p pos apos : Pos} {e o : Expr} {es : List Expr} {ta : TE} {t : TA}
/-- f(..) -/
def tCallW (sp : Sp) (W : WX) (t : TA) : TE := fun σ H Q => t σ H fun vs H1 => sp vs H1 Q fun c d H2 => W c d σ H2
theorem pe_callW (tk : Takes X W) (F : FnOk X.prog X.w X.K X.mg X.base (L2.CX X.prog X.w) k f fd ps sp) (hr : Room k X.A) (hg : Gl X x) (hm : X.mg x = some (.ref f)) (hk : PySem.W.keepIn X.K (.ref f) = true) (hb : Binds X.K fd ps [])
    (ha : PA X (e :: es) t) (hdb : (x == ("__debug__" : Str)) = false := by decide) (he : starEach (e :: es) X.env = (false, eval e X.env) :: starEach es X.env := by rfl) (hpl : (backTo pos (starEach es X.env)).any (·.1) = false := by rfl) :
    PE X (.Call (.Name x p) (e :: es) [] pos) (tCallW sp W t) := pe_callS F hr hg hm hk hb (fun σ => passAt tk σ) ha hdb he hpl
theorem pe_callW0 (tk : Takes X W) (F : FnOk X.prog X.w X.K X.mg X.base (L2.CX X.prog X.w) k f fd ps sp) (hr : Room k X.A) (hg : Gl X x) (hm : X.mg x = some (.ref f)) (hk : PySem.W.keepIn X.K (.ref f) = true) (hb : Binds X.K fd ps [])
    (hdb : (x == ("__debug__" : Str)) = false := by decide) : PE X (.Call (.Name x p) [] [] pos) (tCallW sp W tNil) := by
  refine ⟨fun pins s σ H Q I h => wpAny_Call_Name_kw (ld_glob I hg hm ?_ hdb)⟩
  exact PySem.W.callWith_K0 I.kIn hk (run_fnS (us := []) (E := WE W) F hr hb (passAt tk σ) I .nil h)
/-- o.m(..) -/
def tMethW (C : Addr) (m : Str) (sp : Sp) (W : WX) (ta : TE) (t : TA) : TE := fun σ H Q => ta σ H fun x H1 => ∃ a dx fs, x = .ref a ∧ H1 a = some (.ins C dx fs) ∧ fs.lookup m = none ∧ t σ H1 fun vs H2 => sp (x :: vs) H2 Q fun c d H3 => W c d σ H3
theorem pe_methW {pl : Sem Bool} (tk : Takes X W) (he : PE X o ta) (c : Cls X.K C) (hm : Meth X.K C m f) (F : FnOk X.prog X.w X.K X.mg X.base (L2.CX X.prog X.w) k f fd ps sp) (hr : Room k X.A) (hb : Binds X.K fd ps []) (ha : PA X (e :: es) t)
    (hst : starEach (e :: es) X.env = (false, eval e X.env) :: starEach es X.env := by rfl) (hpl : (backTo pos (starEach es X.env)).any (·.1) = false := by rfl)
    (ht : eval (.Call (.Attribute o m apos) (e :: es) [] pos) X.env = (do
      let z ← eval o X.env
      standAt apos.atName
      let (g, one) ← holding [z] (getMethod z m pl)
      callWith pos g one (backTo pos (starEach (e :: es) X.env)) (backToKw pos (keywordEach [] X.env))) := by rfl) :
    PE X (.Call (.Attribute o m apos) (e :: es) [] pos) (tMethW C m sp W ta t) := by
  refine ⟨fun pins s σ H Q I h => ?_⟩
  refine PySem.W.methodCall_KW (pl := pl) (thn (he.run pins s σ H _ I h) fun u s1 hh => ?_) ht
  obtain ⟨y, H1, I1, ry, a, dx, fs, ey, ea, l, q⟩ := hh
  subst ey
  obtain rfl : u = Value.ref a := ry
  refine getmeth_ok I1 ea c hm l ?_
  refine PySem.W.callWith_K (first := [.ref a]) (h₀ := X.base) I.ok.mod.kin hm.kp (thn (ha.run pos pins s1 σ H1 _ I1 q) fun us s2 h2 => ?_) hst hpl
  obtain ⟨vs, H2, I2, r, q2⟩ := h2
  exact ⟨I2.kIn, run_fnS (us := .ref a :: us) (vs := .ref a :: vs) (E := WE W) F hr hb (passAt tk σ) I2 (.cons rfl r) q2⟩
theorem pe_methW0 {pl : Sem Bool} (tk : Takes X W) (he : PE X o ta) (c : Cls X.K C) (hm : Meth X.K C m f) (F : FnOk X.prog X.w X.K X.mg X.base (L2.CX X.prog X.w) k f fd ps sp) (hr : Room k X.A) (hb : Binds X.K fd ps [])
    (ht : eval (.Call (.Attribute o m apos) [] [] pos) X.env = (do
      let z ← eval o X.env
      standAt apos.atName
      let (g, one) ← holding [z] (getMethod z m pl)
      callWith pos g one (backTo pos (starEach [] X.env)) (backToKw pos (keywordEach [] X.env))) := by rfl) :
    PE X (.Call (.Attribute o m apos) [] [] pos) (tMethW C m sp W ta tNil) := by
  refine ⟨fun pins s σ H Q I h => ?_⟩
  refine PySem.W.methodCall_KW (pl := pl) (thn (he.run pins s σ H _ I h) fun u s1 hh => ?_) ht
  obtain ⟨y, H1, I1, ry, a, dx, fs, ey, ea, l, q⟩ := hh
  subst ey
  obtain rfl : u = Value.ref a := ry
  refine getmeth_ok I1 ea c hm l ?_
  exact PySem.W.callWith_K0 (first := [.ref a]) I1.kIn hm.kp (run_fnS (us := [.ref a]) (vs := [.ref a]) (E := WE W) F hr hb (passAt tk σ) I1 (.cons rfl .nil) q)
/-- C(..) -/
def tMakeW (C : Addr) (sp : Sp) (W : WX) (t : TA) : TE := fun σ H Q => t σ H fun vs H1 => ∀ x dx, H1 x = none → H1 dx = none → dx ≠ x →
  sp (.ref x :: vs) (upd (upd H1 dx (.own x)) x (.ins C dx [])) (fun v H2 => v = .non ∧ Q (.ref x) H2) fun c d H3 => W c d σ H3
theorem run_makeW {pins : List (Addr × Obj)} {σ : L2.St} {H : Hp} {s : Shared} {Q : VK} {us : List Value} {vs : List V} (tk : Takes X W) (M : Mk X.K C f) (F : FnOk X.prog X.w X.K X.mg X.base (L2.CX X.prog X.w) k f fd ps sp) (hr : Room (k + 1) X.A) (hb : Binds X.K fd ps [])
    (I : Inv X pins σ H s) (r : Vals vs us)
    (h : ∀ x dx, H x = none → H dx = none → dx ≠ x → sp (.ref x :: vs) (upd (upd H dx (.own x)) x (.ins C dx [])) (fun v H2 => v = .non ∧ Q (.ref x) H2) fun c d H3 => W c d σ H3) :
    wpAny (model X.prog X.w) X.A (call (.ref C) us) (EP X pins σ Q) X.xe s := by
  have go := h (s.heap.objs.size + 1) s.heap.objs.size (I.hok.fresh (Nat.le_succ _)) (I.hok.fresh (Nat.le_refl _)) (Nat.ne_of_lt (Nat.lt_succ_self _))
  have J := Inv.made (C := C) I
  have r2 : Vals (V.ref (s.heap.objs.size + 1) :: vs) (Value.ref (s.heap.objs.size + 1) :: us) := .cons rfl r
  have hl : (Value.ref (s.heap.objs.size + 1) :: us).length = ps.length := r2.length.symm.trans (F.len _ _ _ _ go)
  have b := hb { s with heap := (s.heap.push PySem.W.emptyDict).push (PySem.W.instObj C s.heap.objs.size) } (Value.ref (s.heap.objs.size + 1) :: us) J.kIn (by rw [List.append_nil]; exact hl)
  rw [List.append_nil] at b
  refine wpAny_call (make_map (f := f) I.kIn M.makes M.init (beq_iff_eq.mp M.fn) (codeAny_mono (F.run _ X.stack _ _ ⟨Value.ref (s.heap.objs.size + 1) :: us, []⟩ _ _ _ _ (hr.make C us []) (J.env0.make C us []) b r2 go) fun r s' hq => ?_))
  cases r with
  | error e => exact passAt tk σ pins _ _ e s' J hq
  | ok fl =>
    cases fl with
    | ret u =>
      obtain ⟨v, H', I3, rv, ev, q3⟩ := J.after hq
      subst ev
      exact ⟨rv, V.ref (s.heap.objs.size + 1), H', I3, rfl, q3⟩
    | next => exact hq.elim
    | brk => exact hq.elim
    | cont => exact hq.elim
theorem pe_makeW (tk : Takes X W) (M : Mk X.K C f) (F : FnOk X.prog X.w X.K X.mg X.base (L2.CX X.prog X.w) k f fd ps sp) (hr : Room (k + 1) X.A) (hg : Gl X x) (hm : X.mg x = some (.ref C)) (hb : Binds X.K fd ps [])
    (ha : PA X (e :: es) t) (hdb : (x == ("__debug__" : Str)) = false := by decide) (he : starEach (e :: es) X.env = (false, eval e X.env) :: starEach es X.env := by rfl) (hpl : (backTo pos (starEach es X.env)).any (·.1) = false := by rfl) :
    PE X (.Call (.Name x p) (e :: es) [] pos) (tMakeW C sp W t) := by
  refine ⟨fun pins s σ H Q I h => wpAny_Call_Name_kw (ld_glob I hg hm ?_ hdb)⟩
  refine PySem.W.callWith_K (h₀ := X.base) I.ok.mod.kin M.kp (thn (ha.run pos pins s σ H _ I h) fun us s1 hh => ?_) he hpl
  obtain ⟨vs, H1, I1, r, q⟩ := hh
  exact ⟨I1.kIn, run_makeW tk M F hr hb I1 r q⟩
theorem pe_makeW0 (tk : Takes X W) (M : Mk X.K C f) (F : FnOk X.prog X.w X.K X.mg X.base (L2.CX X.prog X.w) k f fd ps sp) (hr : Room (k + 1) X.A) (hg : Gl X x) (hm : X.mg x = some (.ref C)) (hb : Binds X.K fd ps [])
    (hdb : (x == ("__debug__" : Str)) = false := by decide) : PE X (.Call (.Name x p) [] [] pos) (tMakeW C sp W tNil) := by
  refine ⟨fun pins s σ H Q I h => wpAny_Call_Name_kw (ld_glob I hg hm ?_ hdb)⟩
  exact PySem.W.callWith_K0 I.kIn M.kp (run_makeW (us := []) tk M F hr hb I .nil h)
end

/-! ## try .. except x as n, the exception a tracked thing in the suite -/
/-- what the clause wishes; slot i is n's -/
def wTr (K : PySem.W.Frag) (c : Value) (i : Nat) (ts : TS) (Wo : WX) (D : Ends) : WX := fun cls d σ H => ∃ b, PySem.W.exmOne K cls c = some b ∧
  (b = true → d = none ∧ ∀ a, H a = none → ts { nx := fun σ' H' => D.nx (σ'.set i none) H', rt := D.rt, bk := fun σ' H' => D.bk (σ'.set i none) H', ct := fun σ' H' => D.ct (σ'.set i none) H' } (σ.set i (some (.ref a))) (upd H a (ExA cls a))) ∧ (b = false → Wo cls d σ H)
section
variable {X : Cx} {x n : Str} {c : Value} {i : Nat} {body suite : List Stmt} {b0 : Stmt} {np pos pos' : Pos} {tb : WX → TS} {ts : TS} {Wo : WX}
theorem toSuite {pins : List (Addr × Obj)} {σ : L2.St} {H : Hp} {s : Shared} (I : Inv X pins σ H s) (a : Addr) : Inv (X.suite a (X.pn ++ pins)) [] σ H s :=
  ⟨I.ok.suite _ _, I.os, I.bare, I.base, I.loc, I.cell, I.free, I.freeC, fun p hp => I.pin p (by simpa using hp), I.hok, I.len⟩
theorem ofSuite {pins pl : List (Addr × Obj)} {σ : L2.St} {H : Hp} {s : Shared} {a : Addr} (ok : X.Ok) (I : Inv (X.suite a (X.pn ++ pins)) pl σ H s) : Inv X pins σ H s :=
  ⟨ok, I.os, I.bare, I.base, I.loc, I.cell, I.free, I.freeC, fun p hp => I.pin p (List.mem_append_left _ hp), I.hok, I.len⟩
theorem ps_tryT (hs : X.stack = X.env :: X.outer) (hf : X.env.frame = some X.env.locals) (hex : X.ex = []) (hN : X.N.Nodup) (hi : X.N[i]? = some n) (hln : X.env.kindOf n = some .local) (hc : Names X x c) (tk : Takes X Wo)
    (hb : ∀ (W : WX) (pn : List (Addr × Obj)) (xe : Value → Shared → Prop), Takes (X.tr pn xe) W → PassesOwn (model X.prog X.w) X.A X.env xe → PSs (X.tr pn xe) body (tb W))
    (hsu : ∀ (a : Addr) (pn : List (Addr × Obj)), PSs (X.suite a pn) (b0 :: suite) ts) :
    PS X (.Try body [.ExceptHandler (some (.Name x np)) (some n) (b0 :: suite) pos'] [] [] pos) (fun D σ H => tb (wTr X.K c i ts Wo D) D σ H) := by
  refine ⟨fun pins s σ H D I h => ?_⟩
  have ok := I.ok
  have hfr : X.A.frames = some (X.env :: X.outer) := by rw [ok.frames, hs]
  have lo : Loc X.env.scope n := .inl hln
  let rest : List ExceptHandler := [.ExceptHandler (some (.Name x np)) (some n) (b0 :: suite) pos']
  let M := model X.prog X.w
  let wish : Value → Shared → Prop := fun e u1 => wpAny M X.A (noteFrame e X.env) (fun _ u2 => wpAny M X.A (setFlight e none) (fun _ u3 => wpAny M X.A (handleBy e X.env rest) (SP X pins D) X.xe u3) X.xe u2) X.xe u1
  refine wpAny_Try_except (wpAny_mono ((hb (wTr X.K c i ts Wo D) (X.pn ++ pins) wish (fun u s' air => ?_) PassesOwn.looking).run [] s σ H D (I.toTry _) h) (fun fl s1 hsp => ?_) (fun e s1 he => he))
  · obtain ⟨a, B, sg, pi', σ1, H1, cls, d, rfl, Jt, nb, up, sky, na, os, ag, b, e1, yes, no⟩ := air
    have J : Inv X pins σ1 H1 sg := Jt.ofTry ok
    have sky' : Sky B (X.env :: X.outer) a (Zc cls d) X.env.locals s'.heap := by rw [← hs]; exact sky
    show wpAny M X.A (noteFrame (.ref a) X.env) _ _ _
    refine Sky.land Zc.steady hfr hf sky' fun h3 fl3 up3 => ?_
    have u3 := up.trans up3
    have J3 : Inv X pins σ1 H1 { s' with heap := h3 } := J.landed nb fl3.1 u3 os ag
    obtain ⟨o3, f3, g3, z3, d3⟩ := fl3.there
    have nfr : a ∉ frs (X.env :: X.outer) := fun hm => by
      obtain ⟨-, o', g', nf⟩ := fl3.2.2.1.mem hm
      rw [g3] at g'
      cases g'
      exact nf _ d3
    have nL : a ≠ X.env.locals := fun z => nfr (List.mem_filterMap.mpr ⟨X.env, List.mem_cons_self, by rw [hf, z]⟩)
    have nst : a ∉ frs X.stack := by rw [hs]; exact nfr
    have nB : B.get? a = none := fl3.2.1
    have ng : sg.heap.get? a = none := by
      cases e : sg.heap.get? a with
      | none => rfl
      | some o =>
        rw [nb a o e nst] at nB
        cases nB
    have n0 : X.s_0.heap.get? a = none := by
      cases e : X.s_0.heap.get? a with
      | none => rfl
      | some o =>
        obtain ⟨o', q⟩ := J.base.there a o e (by rw [hex]; exact List.not_mem_nil)
        rw [ng] at q
        cases q
    have nC : ∀ y z, X.env.cells.lookup y = some z → z ≠ a := fun y z e q => by
      obtain ⟨v, ob, e2, -⟩ := J.cell y z e
      rw [q, ng] at e2
      cases e2
    have nP : ∀ p ∈ X.pn ++ pins, p.1 ≠ a := fun p hp q => by
      have e2 := (J.pin p hp).1
      rw [q, ng] at e2
      cases e2
    have S3 := toSuite J3 a
    refine wpAny_handleBy_cons (codeAny_handlers_test ?_) (by intro q; cases q)
    have LT : PySem.W.Looks M h3 (typeOf (.ref a)) cls := fun _ _ _ _ k q => wpAny_typeOf_ref (k _ _ g3) (by rw [z3.1]; exact q)
    have LM := PySem.W.exm_one (M := M) J3.kIn LT e1
    have test : ∀ {Q : Value → Shared → Prop} {E : Value → Shared → Prop}, Q c { s' with heap := h3 } → wpAny M (X.A.mark (some (.ref a))) (eval (.Name x np) X.env) Q E { s' with heap := h3 } := fun {Q E} q => by
      obtain ⟨hg, hdb, hm | ⟨hm, hv, hnn⟩⟩ := hc
      · exact ld_glob (X := X.suite a (X.pn ++ pins)) S3 hg hm q hdb
      · exact ld_blt (X := X.suite a (X.pn ++ pins)) S3 hg hm hv q hnn hdb
    refine test (LM.here ?_)
    cases b with
    | true =>
      refine codeAny_handlers_suite_as (HandSPX.lands_againZ fl3 fun h4 fl4 up4 => ?_)
      have J4 : Inv X pins σ1 H1 { s' with heap := h4 } := J.landed nb fl4.1 (u3.trans up4) os ag
      obtain ⟨o4, f4, g4, z4, d4⟩ := fl4.there
      obtain ⟨ed, go⟩ := yes rfl
      subst ed
      have J5 := track (u := ExA cls a) J4 na n0 nL nC nP (exA_ok g4 z4 d4)
      refine store_ok (X := X.suite a (X.pn ++ pins)) (v := .ref a) (toSuite J5 a) hN hi lo rfl (fun s5 S5 => ?_) (.inr hln)
      refine wpAny_mono ((hsu a (X.pn ++ pins)).run [] s5 _ _ _ S5 (go a na)) (fun fl s6 hsp => ?_) (fun _ _ z => False.elim z)
      have out : ∀ {σ6 : L2.St} {H6 : Hp} {Q : Shared → Prop}, Inv (X.suite a (X.pn ++ pins)) [] σ6 H6 s6 → (∀ s7, Inv X pins (σ6.set i none) H6 s7 → Q s7) →
          wpAny M X.A (do bindName X.env n .none; unbindBehindTheSuite X.env n pos') (fun _ s7 => Q s7) X.xe s6 := fun S6 hq => gone_ok (ofSuite ok S6) hN hi hln hq
      cases fl with
      | next => exact hsp.elim fun _ z => z.elim fun _ q => out q.1 fun s7 J7 => ⟨_, _, J7, q.2⟩
      | brk => exact hsp.elim fun _ z => z.elim fun _ q => out q.1 fun s7 J7 => ⟨_, _, J7, q.2⟩
      | cont => exact hsp.elim fun _ z => z.elim fun _ q => out q.1 fun s7 J7 => ⟨_, _, J7, q.2⟩
      | ret u =>
        obtain ⟨v6, σ6, H6, S6, r6, q6⟩ := hsp
        exact out S6 fun s7 J7 => ⟨_, _, _, J7, r6, q6⟩
    | false =>
      show wpAny M X.A (handleBy (.ref a) X.env []) _ _ _
      refine wpAny_handleBy_nil ?_
      obtain ⟨-, -, -, oe, vs, T, oT, ts', he, hz, hd, h1, hr⟩ := id fl3
      unfold PySem.passOn
      refine wpAny_bind (wpAny_field he hd h1 ?_)
      rw [if_neg (show ¬ ((Value.ref T == Value.none) = true) from by simp)]
      have fin : wpAny M X.A (setFlight (.ref a) X.env.frame) (fun _ u4 => wpAny M X.A (throw (.ref a) : Sem Flow) (SP X pins D) X.xe u4) X.xe { s' with heap := h3 } := by
        rw [hf]
        refine HandSPX.setFlight_upZ fl3 fun h4 hh4 up4 => wpAny_throw (tk _ _ ?_)
        exact ⟨a, B, sg, pins, σ1, H1, cls, d, rfl, J, nb, u3.trans up4, .inr (.inr (by rw [hs]; exact hh4)), na, os, ag, no rfl⟩
      first
        | exact wpAny_bind (wpAny_pure (wpAny_bind fin))
        | exact wpAny_bind fin
  · cases fl with
    | next => exact hsp.elim fun σ1 z => z.elim fun H1 q => wpAny_execs_nil ⟨σ1, H1, q.1.ofTry ok, q.2⟩
    | brk => exact hsp.elim fun σ1 z => z.elim fun H1 q => ⟨σ1, H1, q.1.ofTry ok, q.2⟩
    | cont => exact hsp.elim fun σ1 z => z.elim fun H1 q => ⟨σ1, H1, q.1.ofTry ok, q.2⟩
    | ret u =>
      obtain ⟨v, σ1, H1, J, r, q⟩ := hsp
      exact ⟨v, σ1, H1, J.ofTry ok, r, q⟩
end
end G
namespace G
open PySem PySem.Spec PyProof.Rows L2
/-! ## isinstance -/
def tyO : Option HO → Option String
  | some (.lst _) => some "list"
  | some (.frz _ (.lst _)) => some "list"
  | some (.tup _) => some "tuple"
  | some (.dK _) => some "dict"
  | some (.dT _) => some "dict"
  | _ => none
def tyOf : V → Hp → Option String
  | .non, _ => some "NoneType"
  | .bl _, _ => some "bool"
  | .int _, _ => some "int"
  | .str _, _ => some "str"
  | .ref a, H => tyO (H a)
  | _, _ => none
theorem tyOf_ok {K : PySem.W.Frag} {x : V} {H : Hp} {t : String} (h : tyOf x H = some t) : TyX K H x (.type t) := by
  cases x with
  | non => cases h; exact .base .non
  | bl b => cases h; exact .base (.bl b)
  | int i => cases h; exact .base (.int i)
  | str z => cases h; exact .base (.str z)
  | byt z => cases h
  | flt z => cases h
  | ty z => cases h
  | ref a =>
    have h1 : tyO (H a) = some t := h
    unfold tyO at h1
    split at h1
    · rename_i e; cases h1; exact .base (.lst e)
    · rename_i e; cases h1; exact .base (.frz e)
    · rename_i e; cases h1; exact .base (.tup e)
    · rename_i e; cases h1; exact .base (.dK e)
    · rename_i e; cases h1; exact .base (.dT e)
    · cases h1
/-- the classes that are asked of plain things, and the answer -/
def isB (t n : String) : Bool := t == n || (t == "bool" && n == "int")
def tys : List String := ["NoneType", "bool", "int", "str", "list", "tuple", "dict"]
theorem isB_all : ∀ t ∈ tys, ∀ n ∈ (["int", "bool", "str", "list", "tuple", "dict"] : List String), kitB t n = some (isB t n) := by decide +kernel
theorem tyOf_in {x : V} {H : Hp} {t : String} (h : tyOf x H = some t) : t ∈ tys := by
  unfold tyOf at h
  split at h
  all_goals first
    | (cases h; decide)
    | (unfold tyO at h; split at h <;> first | (cases h; decide) | (cases h))
    | (cases h)
/-- isinstance(x, T) of a plain thing -/
def gIsi : List V → Hp → VK → Prop
  | [x, .ty n], H, Q => n ∈ (["int", "bool", "str", "list", "tuple", "dict"] : List String) ∧ ∃ t, tyOf x H = some t ∧ Q (.bl (isB t n)) H
  | _, _, _ => False
section
variable {X : Cx}
theorem call_gIsi : CallR X (.builtin "isinstance") gIsi := by
  intro pins s σ H xs us Q I r h
  unfold gIsi at h
  split at h
  · obtain ⟨hn, t, ht, q⟩ := h
    exact call_isi pins s σ _ _ us Q I r ⟨_, _, .type t, .type _, _, rfl, .ty _, tyOf_ok ht, kit_ty (isB_all t (tyOf_in ht) _ hn), q⟩
  · exact h.elim
/-- isinstance(e, C) of a caught error -/
def gIsE (K : PySem.W.Frag) : List V → Hp → VK → Prop
  | [.ref a, c], H, Q => ∃ D u b, H a = some (ExA (.ref D) a) ∧ ExcC K D ∧ ClsV c u ∧ PySem.W.kitOne K (.ref D) u = some b ∧ Q (.bl b) H
  | _, _, _ => False
theorem exA_kit {pins : List (Addr × Obj)} {σ : L2.St} {H : Hp} {s : Shared} {a D : Addr} (I : Inv X pins σ H s) (h : H a = some (ExA (.ref D) a)) (C : ExcC X.K D) : ∃ P : Heap → Prop, PySem.W.KitX X.K (.ref a) (.ref D) P ∧ P s.heap := by
  obtain ⟨⟨o, fv, e, z, d⟩, -, -⟩ := I.hok a _ h
  have J : PySem.W.InstAt s.heap a o D none := by
    obtain ⟨oc, od, dt, sl⟩ := o
    obtain ⟨z1, z2⟩ := z
    dsimp only at z1 z2 d
    subst z1 z2 d
    exact ⟨e, rfl, rfl, trivial⟩
  exact ⟨_, PySem.W.handS_kitx_exc C.hg C.hk C.hs C.hd C.ha C.hn C.ht C.hm, J⟩
theorem call_gIsE : CallR X (.builtin "isinstance") (gIsE X.K) := by
  intro pins s σ H xs us Q I r h
  unfold gIsE at h
  split at h
  · obtain ⟨D, u, b, ha, C, hc, hk, q⟩ := h
    obtain ⟨u1, u2, rfl, r1, r2⟩ := vals2 r
    have e2 := hc.eq r2
    subst e2
    cases (show u1 = Value.ref _ from r1)
    obtain ⟨P, Z, p⟩ := exA_kit I ha C
    exact PySem.W.kia_one Z I.kIn p hk (fun z => nomatch z) fun tk => ⟨.bl b, _, I.tok tk, rfl, q⟩
  · exact h.elim
/-- isinstance(e, (C1, C2, ..)) of a caught error: the tuple is never seen again -/
def tIsT (K : PySem.W.Frag) (ta : TE) (tc : TA) : TE := fun σ H Q => ta σ H fun x H1 => tc σ H1 fun cs H2 => cs.length ≤ sizeLine ∧ ∃ a D us b, x = .ref a ∧ H2 a = some (ExA (.ref D) a) ∧ ExcC K D ∧ Paired ClsV cs us ∧ PySem.W.kitAny K (.ref D) us = some b ∧ Q (.bl b) H2
theorem pe_isT {a : Expr} {es : List Expr} {x1} {ta : TE} {tc : TA} {p tp pos : Pos} (hg : Gl X "isinstance") (hm : X.mg "isinstance" = none) (ha : PE X a ta) (hc : PA X es tc)
    (he : starEach [a, .Tuple es x1 tp] X.env = [(false, eval a X.env), (false, eval (.Tuple es x1 tp) X.env)] := by rfl) : PE X (.Call (.Name "isinstance" p) [a, .Tuple es x1 tp] [] pos) (tIsT X.K ta tc) := by
  refine ⟨fun pins s σ H Q I h => ?_⟩
  refine wpAny_Call_Name_kw (ld_blt I hg hm (by decide +kernel : bootBuiltins "isinstance" = some (.builtin "isinstance")) ?_ (by decide) (by decide))
  refine PyProof.Rows.callWith_builtin1 (rest := [.Tuple es x1 tp]) ?_ he rfl
  rw [he]
  show wpAny _ _ (spliced [(false, eval a X.env), (false, eval (.Tuple es x1 tp) X.env)]) _ _ _
  refine Calls.spliced_cons (thn (ha.run pins s σ H _ I h) fun u s1 ⟨x, H1, I1, rx, q1⟩ => ?_)
  refine Calls.spliced_cons (wpAny_Tuple_spliced (x1 := x1) (thn (hc.run tp pins s1 σ H1 _ I1 q1) fun us s2 hh => ?_))
  obtain ⟨cs, H2, I2, rc, hz, y, D, ws, b, ex, hy, C, hcl, hk, q⟩ := hh
  subst ex
  cases (show u = Value.ref y from rx)
  refine ⟨by rw [← rc.length]; exact hz, Calls.spliced_nil ?_⟩
  have e3 := ClsV.all hcl rc
  subst e3
  have I3 : Inv X pins σ H2 { s2 with heap := s2.heap.push { cls := .type "tuple", data := .seq us.toArray } } := I2.kept (t' := s2.toks) fun _ _ e => Heap.get?_push_of_some _ e
  obtain ⟨P, Z, p⟩ := exA_kit I3 hy C
  exact PySem.W.kia_tup Z I3.kIn p (Heap.get?_push_size _ rfl) hk (fun z => nomatch z) fun tk => ⟨.bl b, H2, I3.tok tk, rfl, q⟩

/-! ## operators by the kinds of their values -/
def gAdd : R2
  | .int i, .int j, H, Q => Q (.int (i + j)) H
  | .str i, .str j, H, Q => i.length + j.length ≤ sizeLine ∧ Q (.str (i ++ j)) H
  | .ref a, .ref b, H, Q => ∃ xs zs, H a = some (.lst xs) ∧ H b = some (.lst zs) ∧ xs.length + zs.length ≤ sizeLine ∧ ∀ p, H p = none → Q (.ref p) (upd H p (.lst (xs ++ zs)))
  | _, _, _, _ => False
theorem op_gAdd : OpR X (binaryOp .Add) gAdd := by
  intro pins s σ H x y v u Q I rx ry h
  unfold gAdd at h
  split at h
  · exact op_add pins s σ _ _ _ v u Q I rx ry ⟨_, _, rfl, rfl, h⟩
  · exact op_add_str pins s σ _ _ _ v u Q I rx ry ⟨_, _, rfl, rfl, h.1, h.2⟩
  · obtain ⟨xs, zs, h1, h2, h3, h4⟩ := h
    exact op_cat pins s σ _ _ _ v u Q I rx ry ⟨_, _, xs, zs, rfl, rfl, h1, h2, h3, h4⟩
  · exact h.elim
def gMul : R2
  | .int i, .int j, H, Q => ((-(2 ^ 64) < i ∧ i < 2 ^ 64) ∨ (-(2 ^ 64) < j ∧ j < 2 ^ 64)) ∧ Q (.int (i * j)) H
  | .str z, .int n, H, Q => (n = 0 ∨ n = 1) ∧ Q (.str (if n = 1 then z else Str.empty)) H
  | .ref a, .int k, H, Q => ∃ xs, H a = some (.lst xs) ∧ -(2 ^ 63) ≤ k ∧ k < 2 ^ 63 ∧ xs.length * k.toNat ≤ sizeLine ∧ ∀ p, H p = none → Q (.ref p) (upd H p (.lst ((List.replicate k.toNat xs).flatten)))
  | _, _, _, _ => False
theorem op_gMul : OpR X (binaryOp .Mult) gMul := by
  intro pins s σ H x y v u Q I rx ry h
  unfold gMul at h
  split at h
  · exact op_mul pins s σ _ _ _ v u Q I rx ry ⟨_, _, rfl, rfl, h.1, h.2⟩
  · rename_i z n
    obtain ⟨hn, q⟩ := h
    obtain ⟨t, rfl⟩ := rx
    obtain ⟨t', rfl⟩ := ry
    rcases hn with rfl | rfl
    · exact PySem.P.mul_str_none (by decide) (by decide) ⟨.str Str.empty, _, I.tok _, ⟨_, rfl⟩, q⟩
    · refine PySem.P.mul_str (by decide) (fun _ z => by simp at z) (fun _ z => by simp at z) ?_
      exact ⟨.str z, _, I, ⟨_, rfl⟩, q⟩
  · obtain ⟨xs, h1, h2, h3, h4, h5⟩ := h
    exact op_rep pins s σ _ _ _ v u Q I rx ry ⟨_, _, xs, rfl, rfl, h1, h2, h3, h4, h5⟩
  · exact h.elim
/-- == : flat values; else data of any depth -/
def gEq (K : PySem.W.Frag) : R2 := fun x y H Q => if flatV x && flatV y then Q (.bl (eqV x y)) H else rEqD K x y H Q
def gNe (K : PySem.W.Frag) : R2 := fun x y H Q => if flatV x && flatV y then Q (.bl (!eqV x y)) H else rNeD K x y H Q
theorem flat_eqv {K : PySem.W.Frag} {H : Hp} {x y : V} (hx : flatV x = true) (hy : flatV y = true) :
    (scal x y = true ∧ decide (x = y) = eqV x y) ∨ ∃ d e, Dp K H x d ∧ Dp K H y e ∧ SeqAt.shaped d = true ∧ SeqAt.shaped e = true ∧ PyData.eqv d e = eqV x y := by
  cases x <;> first | (cases hx; done) | skip
  all_goals (cases y <;> first | (cases hy; done) | skip)
  case bl.int b i => exact .inr ⟨_, _, .bl b, .int i, by cases b <;> decide, rfl, rfl⟩
  case int.bl i b => exact .inr ⟨_, _, .int i, .bl b, rfl, by cases b <;> decide, rfl⟩
  all_goals refine .inl ⟨rfl, ?_⟩
  all_goals first
    | rfl
    | exact dec_int
    | exact dec_bl
    | exact dec_str
theorem op_gEq (hu : X.A.units + 64 < cLine) : OpR X (compareOp .Eq) (gEq X.K) := by
  intro pins s σ H x y v u Q I rx ry h
  unfold gEq at h
  split at h
  · rename_i c
    obtain ⟨c1, c2⟩ := Bool.and_eq_true_iff.mp c
    rcases flat_eqv (K := X.K) (H := H) c1 c2 with ⟨h1, h2⟩ | ⟨d, e, h1, h2, h3, h4, h5⟩
    · exact op_eq pins s σ _ _ _ v u Q I rx ry ⟨h1, by rw [h2]; exact h⟩
    · exact op_eqD hu pins s σ _ _ _ v u Q I rx ry ⟨d, e, h1, h2, h3, h4, by rw [h5]; exact h⟩
  · exact op_eqD hu pins s σ _ _ _ v u Q I rx ry h
theorem op_gNe (hu : X.A.units + 64 < cLine) : OpR X (compareOp .NotEq) (gNe X.K) := by
  intro pins s σ H x y v u Q I rx ry h
  unfold gNe at h
  split at h
  · rename_i c
    obtain ⟨c1, c2⟩ := Bool.and_eq_true_iff.mp c
    rcases flat_eqv (K := X.K) (H := H) c1 c2 with ⟨h1, h2⟩ | ⟨d, e, h1, h2, h3, h4, h5⟩
    · exact op_ne pins s σ _ _ _ v u Q I rx ry ⟨h1, by rw [h2]; exact h⟩
    · exact op_neD hu pins s σ _ _ _ v u Q I rx ry ⟨d, e, h1, h2, h3, h4, by rw [h5]; exact h⟩
  · exact op_neD hu pins s σ _ _ _ v u Q I rx ry h
/-- abs, int(..) -/
def gAbs : List V → Hp → VK → Prop
  | [.int i], H, Q => Q (.int (i.natAbs : Int)) H
  | _, _, _ => False
theorem call_gAbs : CallR X (.builtin "abs") gAbs := by
  intro pins s σ H xs us Q I r h
  unfold gAbs at h
  split at h
  · rename_i i
    refine call_abs pins s σ _ _ us Q I r ⟨i, rfl, ?_⟩
    have e : (if i < 0 then -i else i) = (i.natAbs : Int) := by split <;> omega
    rw [e]
    exact h
  · exact h.elim
def gInt : List V → Hp → VK → Prop
  | [.int i], H, Q => Q (.int i) H
  | [.bl k], H, Q => Q (.int (if k then 1 else 0)) H
  | _, _, _ => False
theorem call_gInt : CallR X (.type "int") gInt := by
  intro pins s σ H xs us Q I r h
  unfold gInt at h
  split at h
  · exact call_int1 pins s σ _ _ us Q I r (.inl ⟨_, rfl, h⟩)
  · exact call_int1 pins s σ _ _ us Q I r (.inr ⟨_, rfl, h⟩)
  · exact h.elim
end
end G
namespace G
open PySem PySem.Spec PyProof.Rows L2
open He (ga ma fAd Fa DefD SaysD)
/-! ## what the top has written, by names -/
/-- what isinstance asks of an error's class -/
def excB (K : PySem.W.Frag) (D : Addr) : Bool :=
  (decide (PySem.W.findIn K (.ref D) "__getattribute__" = some (some (.builtin "BaseException.__getattribute__"))) && (decide (PySem.W.findIn K (.ref D) "__getattr__" = some none) && (decide (PySem.W.subIn K (.ref D) (.type "BaseException") = some true) && PySem.W.hasDictIn K D))) &&
  (decide (PySem.W.findIn K (.ref D) "__class__" = some (some (.builtin "object.__class__"))) && (decide (PySem.W.specialIn K (.builtin "object.__class__") "__get__" = some (some (.builtin "getset_descriptor.__get__"))) &&
    (decide (PySem.W.takesIn K (.builtin "object.__class__") = some true) && decide (PySem.W.mroIn K D (.type "object") = some true))))
theorem excB_ok {K : PySem.W.Frag} {D : Addr} (h : excB K D = true) : ExcC K D := by
  obtain ⟨h1, h2⟩ := He.ba h
  obtain ⟨a1, h1⟩ := He.ba h1
  obtain ⟨a2, h1⟩ := He.ba h1
  obtain ⟨a3, a4⟩ := He.ba h1
  obtain ⟨b1, h2⟩ := He.ba h2
  obtain ⟨b2, h2⟩ := He.ba h2
  obtain ⟨b3, b4⟩ := He.ba h2
  exact ⟨of_decide_eq_true a1, of_decide_eq_true a2, of_decide_eq_true a3, a4, of_decide_eq_true b1, of_decide_eq_true b2, of_decide_eq_true b3, of_decide_eq_true b4⟩
/-- d is a class under c -/
def under (d c : Str) : Bool := d == c || c == "KeepError"
/-- a class of the module, no text -/
structure ClN (K : PySem.W.Frag) (C : Addr) : Prop where
  ha : PySem.W.findIn K (.ref C) "__class__" = some (some (.builtin "object.__class__"))
  hn : PySem.W.specialIn K (.builtin "object.__class__") "__get__" = some (some (.builtin "getset_descriptor.__get__"))
  htk : PySem.W.takesIn K (.builtin "object.__class__") = some true
  hm : PySem.W.mroIn K C (.type "object") = some true
  no : PySem.W.kitOne K (.ref C) (.type "str") = some false
def clB (K : PySem.W.Frag) (C : Addr) : Bool := (decide (PySem.W.findIn K (.ref C) "__class__" = some (some (.builtin "object.__class__"))) && (decide (PySem.W.specialIn K (.builtin "object.__class__") "__get__" = some (some (.builtin "getset_descriptor.__get__"))) &&
  (decide (PySem.W.takesIn K (.builtin "object.__class__") = some true) && (decide (PySem.W.mroIn K C (.type "object") = some true) && decide (PySem.W.kitOne K (.ref C) (.type "str") = some false)))))
theorem clB_ok {K : PySem.W.Frag} {C : Addr} (h : clB K C = true) : ClN K C := by
  obtain ⟨h1, h⟩ := He.ba h
  obtain ⟨h2, h⟩ := He.ba h
  obtain ⟨h3, h⟩ := He.ba h
  obtain ⟨h4, h5⟩ := He.ba h
  exact ⟨of_decide_eq_true h1, of_decide_eq_true h2, of_decide_eq_true h3, of_decide_eq_true h4, of_decide_eq_true h5⟩
structure XL where
  (ex cl : List Str)
/-- the errors' classes, and others -/
def exOk1 (L : List Str) (K : PySem.W.Frag) : Bool := L.all fun d => excB K (ga K d) && (decide (PySem.W.kitOne K (.ref (ga K d)) (.type "ValueError") = some true) &&
  (L.all fun c => decide (PySem.W.kitOne K (.ref (ga K d)) (.ref (ga K c)) = some (under d c)) && decide (PySem.W.exmOne K (.ref (ga K d)) (.ref (ga K c)) = some (under d c))))
def exOk (L : XL) (K : PySem.W.Frag) : Bool := exOk1 L.ex K && L.cl.all fun c => clB K (ga K c)
structure Told (fa : List Fa) (fn : List DefD) (xl : XL) (K : PySem.W.Frag) (mg : Str → Option Value) : Prop where
  ex : ∃ h : Heap, K.In h ∧ h.Ns mainGlobals mg
  says : SaysD fa fn K
  errs : exOk xl K = true
/-- what an object names, but for its class and the classes over it -/
def refsX (o : Obj) : List Addr := (match o.data with
  | .seq its _ => its.toList.flatMap He.refV
  | .dict es _ => es.toList.flatMap fun e => He.refV e.val
  | .func fd => He.refV fd.code ++ He.refV fd.defaults ++ He.refV fd.kwdefaults ++ fd.closure.map (·.2)
  | .cls cd => [cd.ns]
  | .fields vs => vs.toList.flatMap He.refV
  | .cell (some v) => He.refV v
  | _ => []) ++ match o.dict with
  | some d => [d]
  | none => []
def nextX (g : Addr → Option Obj) (as : List Addr) : List Addr := as.flatMap fun a => match g a with
  | some o => refsX o
  | none => []
/-- what the module's names lead to, level by level -/
def asX (g : Addr → Option Obj) : Nat → List Addr → List Addr
  | 0, as => as
  | n + 1, as => as ++ asX g n (nextX g as)
/-- the head's look -/
def lookG (n : Nat) (fa : List Fa) (fn : List DefD) (xl : XL) (g : Addr → Option Obj) : He.AlD × Bool := (He.obsD fa fn (He.frG g (asX g n [mainGlobals])), exOk xl (He.frG g (asX g n [mainGlobals])))
def hookG (n : Nat) (fa : List Fa) (fn : List DefD) (xl : XL) : PySem.W.Hook where
  α := He.AlD × Bool
  obs := fun s => lookG n fa fn xl s.heap.get?
  val := fun _ => (He.valD fn, true)
  says := fun _ h => ∃ K : PySem.W.Frag, K.In h ∧ SaysD fa fn K ∧ exOk xl K = true
  of := fun _ _ e => ⟨_, He.frG_in, congrArg (fun z : He.AlD × Bool => z.1) e, congrArg (fun z : He.AlD × Bool => z.2) e⟩
  keeps := fun _ _ _ ⟨K, hK, c⟩ k => ⟨K, PySem.W.Frag.In.keeps hK k, c⟩
theorem lookG_eq {n : Nat} {fa : List Fa} {fn : List DefD} {xl : XL} {g : Addr → Option Obj} {s : Shared} (h : ∀ a, g a = s.heap.get? a) : lookG n fa fn xl g = (hookG n fa fn xl).obs s := by
  have e : g = s.heap.get? := funext h
  rw [e]
  rfl
section
variable {fa : List Fa} {fn : List DefD} {xl : XL} {K : PySem.W.Frag} {mg : Str → Option Value}
theorem Told.glo (T : Told fa fn xl K mg) (i : Nat) {x : Str} (h : fa[i]? = some (.glo x) := by rfl) : mg x = some (.ref (ga K x)) := let ⟨_, X, N⟩ := T.ex; He.glo_ok X N (T.says.fact i h)
theorem Told.free (T : Told fa fn xl K mg) (i : Nat) {x : Str} (h : fa[i]? = some (.free x) := by rfl) : mg x = none := let ⟨_, X, N⟩ := T.ex; He.free_ok X N (T.says.fact i h)
theorem Told.num (T : Told fa fn xl K mg) (i : Nat) {x : Str} {n : Int} (h : fa[i]? = some (.int x n) := by rfl) : ∃ t, mg x = some (.int n t) := let ⟨_, X, N⟩ := T.ex; He.int_ok X N (T.says.fact i h)
theorem Told.txt (T : Told fa fn xl K mg) (i : Nat) {x z : Str} (h : fa[i]? = some (.str x z) := by rfl) : ∃ t, mg x = some (.str z t) := let ⟨_, X, N⟩ := T.ex; He.str_ok X N (T.says.fact i h)
theorem Told.err (T : Told fa fn xl K mg) {d : Str} (h : d ∈ xl.ex) : ExcC K (ga K d) ∧ PySem.W.kitOne K (.ref (ga K d)) (.type "ValueError") = some true ∧
    ∀ c ∈ xl.ex, PySem.W.kitOne K (.ref (ga K d)) (.ref (ga K c)) = some (under d c) ∧ PySem.W.exmOne K (.ref (ga K d)) (.ref (ga K c)) = some (under d c) := by
  obtain ⟨h1, h2⟩ := He.ba (List.all_eq_true.mp (He.ba T.errs).1 d h)
  obtain ⟨h3, h4⟩ := He.ba h2
  refine ⟨excB_ok h1, of_decide_eq_true h3, fun c hc => ?_⟩
  obtain ⟨h5, h6⟩ := He.ba (List.all_eq_true.mp h4 c hc)
  exact ⟨of_decide_eq_true h5, of_decide_eq_true h6⟩
theorem Told.cln (T : Told fa fn xl K mg) {c : Str} (h : c ∈ xl.cl) : ClN K (ga K c) := clB_ok (List.all_eq_true.mp (He.ba T.errs).2 c h)
/-- isinstance(e, c) of an error of class d -/
theorem Told.isE (T : Told fa fn xl K mg) {d c : Str} {a : Addr} {H : Hp} {Q : VK} (ha : H a = some (ExA (.ref (ga K d)) a)) (hd : d ∈ xl.ex) (hc : c ∈ xl.ex) (q : Q (.bl (under d c)) H) : gIsE K [.ref a, .ref (ga K c)] H Q :=
  ⟨_, _, _, ha, (T.err hd).1, .own _, ((T.err hd).2.2 c hc).1, q⟩
theorem Told.isY (T : Told fa fn xl K mg) {d c : Str} {a : Addr} {H : Hp} {Q : VK} (ha : H a = some (ExA (.ref (ga K d)) a)) (hd : d ∈ xl.ex) (hc : c ∈ xl.ex) (e : under d c = true) (q : Q (.bl true) H) : gIsE K [.ref a, .ref (ga K c)] H Q := T.isE ha hd hc (e ▸ q)
theorem Told.isN (T : Told fa fn xl K mg) {d c : Str} {a : Addr} {H : Hp} {Q : VK} (ha : H a = some (ExA (.ref (ga K d)) a)) (hd : d ∈ xl.ex) (hc : c ∈ xl.ex) (e : under d c = false) (q : Q (.bl false) H) : gIsE K [.ref a, .ref (ga K c)] H Q := T.isE ha hd hc (e ▸ q)
theorem Told.isV (T : Told fa fn xl K mg) {d : Str} {a : Addr} {H : Hp} {Q : VK} (ha : H a = some (ExA (.ref (ga K d)) a)) (hd : d ∈ xl.ex) (q : Q (.bl true) H) : gIsE K [.ref a, .ty "ValueError"] H Q :=
  ⟨_, _, _, ha, (T.err hd).1, .ty _, (T.err hd).2.1, q⟩
end
section
variable {fa : List Fa} {fn : List DefD} {xl : XL} {K : PySem.W.Frag} {mg : Str → Option Value}
/-- an error of class d reaches «except c», c over it -/
theorem Told.caught (T : Told fa fn xl K mg) {d c : Str} {i : Nat} {ts : TS} {Wo : WX} {D : Ends} {σ : L2.St} {H : Hp} (hd : d ∈ xl.ex) (hc : c ∈ xl.ex) (hu : under d c = true)
    (h : ∀ a, H a = none → ts { nx := fun σ' H' => D.nx (σ'.set i none) H', rt := D.rt, bk := fun σ' H' => D.bk (σ'.set i none) H', ct := fun σ' H' => D.ct (σ'.set i none) H' } (σ.set i (some (.ref a))) (upd H a (ExA (.ref (ga K d)) a))) :
    wTr K (.ref (ga K c)) i ts Wo D (.ref (ga K d)) none σ H :=
  ⟨true, by rw [((T.err hd).2.2 c hc).2, hu], fun _ => ⟨rfl, h⟩, fun z => by cases z⟩
end
/-- the function object at f -/
def fdAt (K : PySem.W.Frag) (f : Addr) : FuncData := match K.lookup f with
  | some ⟨_, _, .func fd, _⟩ => fd
  | _ => PySem.W.fnOf "" "" { posonlyargs := [], args := [], vararg := none, kwonlyargs := [], kw_defaults := [], kwarg := none, defaults := [] } [] { kind := .function, names := [], isGenerator := false, isCoroutine := false } .none .none .none .none none .none .none
theorem fdAt_of {K : PySem.W.Frag} {x qual : Str} {params : Arguments} {body : List Stmt} {scope : Scope} {dvs : List V} {kws : List (Str × V)} {f : Addr} {fd : FuncData} (F : FunD K x qual params body scope dvs kws f fd) : fd = fdAt K f := by
  obtain ⟨oc, od, dV, kV, doc, pm, an, cdv, ct, osl, rfl, lk, -⟩ := F.ex
  unfold fdAt
  rw [lk]
/-- every argument is given -/
def Bnd (fd : FuncData) (ps : List Str) : Prop := ∀ (s : Shared) (us : List Value), us.length = ps.length → BindsTo s fd ⟨us, []⟩ (ps.zip us)
theorem Bnd.to {K : PySem.W.Frag} {fd : FuncData} {ps : List Str} (b : Bnd fd ps) : Binds K fd ps [] := fun s us _ hl => by
  rw [List.append_nil] at hl ⊢
  exact b s us hl
/-- a def of the module: its promise sp -/
structure Fn (P : Program) (w : World) (K : PySem.W.Frag) (mg : Str → Option Value) (base : Heap) (k : Nat) (x : Str) (ps : List Str) (sp : Sp) : Prop where
  ok : FnOk P w K mg base (L2.CX P w) k (ga K x) (fdAt K (ga K x)) ps sp
  bd : Bnd (fdAt K (ga K x)) ps
  kp : PySem.W.keepIn K (.ref (ga K x)) = true
  at_ : mg x = some (.ref (ga K x))
/-- nothing is raised -/
theorem quiet {P : Program} {w : World} {K : PySem.W.Frag} {mg : Str → Option Value} {base : Heap} {k : Nat} {f : Addr} {fd : FuncData} {ps : List Str} {sp : Sp} (F : FnOk P w K mg base (L2.CX P w) k f fd ps sp) (h0 : ∀ vs H Q E, sp vs H Q E → sp vs H Q E0) : FnOk P w K mg base CX0 k f fd ps sp :=
  ⟨F.len, fun A outer s H args us vs Q E hr e0 hb r hsp => codeAny_mono (F.run A outer s H args us vs Q E0 hr e0 hb r (h0 _ _ _ _ hsp)) fun r s' hq => by
    cases r with
    | error e =>
      obtain ⟨_, _, _, _, _, _, _, _, _, _, _, _, y⟩ := hq
      exact y.elim
    | ok fl => cases fl with
      | ret u => exact hq
      | next => exact hq.elim
      | brk => exact hq.elim
      | cont => exact hq.elim⟩
/-- .. that may be called in an except suite, too -/
structure FnH (P : Program) (w : World) (K : PySem.W.Frag) (mg : Str → Option Value) (base : Heap) (k : Nat) (x : Str) (ps : List Str) (sp : Sp) : Prop where
  ok : FnN P w K mg base k (ga K x) (fdAt K (ga K x)) ps sp
  bd : Bnd (fdAt K (ga K x)) ps
  kp : PySem.W.keepIn K (.ref (ga K x)) = true
  at_ : mg x = some (.ref (ga K x))
section
variable {fa : List Fa} {fn : List DefD} {xl : XL} {P : Program} {w : World} {K : PySem.W.Frag} {mg : Str → Option Value} {base : Heap}
theorem Told.mkFn (T : Told fa fn xl K mg) (i j : Nat) {d : DefD} {x : Str} {N ps : List Str} {k : Nat} {sp : Sp} (hd : fn[i]? = some d) (hx : d.at_ = (x, none)) (h0 : d.dfl = []) (h1 : d.kwd = []) (hg : fa[j]? = some (.glo x)) (S : FnScope N ps d.scope)
    (bnd : ∀ (kV doc pm : Value) (an : Option Addr) (cdv ct : Value) (us : List Value), us.length = ps.length → bindArgs (PySem.W.fnOf d.name d.qual d.params d.body d.scope .none kV doc pm an cdv ct) ⟨us, []⟩ = pure (ps.zip us))
    (len : ∀ vs H Q E, sp vs H Q E → vs.length = ps.length)
    (body : ∀ (cdv : Value) (A : Around) (outer : List Env) (s : Shared) (H : Hp) (vs : List V) (Q : VK) (E : XK), Room k (A.deeper (envOfC d.qual d.scope s.heap.objs.size (ga K x) cdv)) → sp vs H Q E →
      ∃ t, PSs (cxOf (L2.CX P w) P w K mg base N d.qual d.scope (ga K x) cdv A outer s H E) d.body t ∧ t { nx := fun _ H' => Q .non H', rt := Q } (start N vs) H) : Fn P w K mg base (k + 1) x ps sp := by
  obtain ⟨fd, F⟩ := T.says.def_ i hd
  have e : fAd K d.at_ = ga K x := by rw [hx]; rfl
  have e0 : d.dvs K = [] := by unfold DefD.dvs; rw [h0]; rfl
  have e1 : d.kws K = [] := by unfold DefD.kws; rw [h1]; rfl
  rw [e, e0, e1] at F
  have ef := fdAt_of F
  subst ef
  exact ⟨F.ok S len body, F.bindsA bnd, F.kp, T.glo j hg⟩
theorem Told.mkFnH (T : Told fa fn xl K mg) (i j : Nat) {d : DefD} {x : Str} {N ps : List Str} {k : Nat} {sp : Sp} (hd : fn[i]? = some d) (hx : d.at_ = (x, none)) (h0 : d.dfl = []) (h1 : d.kwd = []) (hg : fa[j]? = some (.glo x)) (S : FnScope N ps d.scope)
    (bnd : ∀ (kV doc pm : Value) (an : Option Addr) (cdv ct : Value) (us : List Value), us.length = ps.length → bindArgs (PySem.W.fnOf d.name d.qual d.params d.body d.scope .none kV doc pm an cdv ct) ⟨us, []⟩ = pure (ps.zip us))
    (len : ∀ vs H Q E, sp vs H Q E → vs.length = ps.length)
    (body : ∀ (cdv : Value) (A : Around) (outer : List Env) (s : Shared) (H : Hp) (vs : List V) (Q : VK), RoomN k (A.deeper (envOfC d.qual d.scope s.heap.objs.size (ga K x) cdv)) → sp vs H Q E0 →
      ∃ t, PSs (cxN P w K mg base N d.qual d.scope (ga K x) cdv A outer s H) d.body t ∧ t { nx := fun _ H' => Q .non H', rt := Q } (start N vs) H) : FnH P w K mg base (k + 1) x ps sp := by
  obtain ⟨fd, F⟩ := T.says.def_ i hd
  have e : fAd K d.at_ = ga K x := by rw [hx]; rfl
  have e0 : d.dvs K = [] := by unfold DefD.dvs; rw [h0]; rfl
  have e1 : d.kws K = [] := by unfold DefD.kws; rw [h1]; rfl
  rw [e, e0, e1] at F
  have ef := fdAt_of F
  subst ef
  exact ⟨fn_ofN F S len body, F.bindsA bnd, F.kp, T.glo j hg⟩
end
section
variable {X : Cx} {k : Nat} {ps : List Str} {sp : Sp} {W : WX} {x : Str} {p pos : Pos} {e : Expr} {es : List Expr} {t : TA}
theorem pe_fn (tk : Takes X W) (F : Fn X.prog X.w X.K X.mg X.base k x ps sp) (hr : Room k X.A) (hg : Gl X x) (ha : PA X (e :: es) t) (hdb : (x == ("__debug__" : Str)) = false := by decide)
    (he : starEach (e :: es) X.env = (false, eval e X.env) :: starEach es X.env := by rfl) (hpl : (backTo pos (starEach es X.env)).any (·.1) = false := by rfl) : PE X (.Call (.Name x p) (e :: es) [] pos) (tCallW sp W t) := by
  exact pe_callW tk F.ok hr hg F.at_ F.kp F.bd.to ha hdb he hpl
theorem pe_fn0 (tk : Takes X W) (F : Fn X.prog X.w X.K X.mg X.base k x ps sp) (hr : Room k X.A) (hg : Gl X x) (hdb : (x == ("__debug__" : Str)) = false := by decide) : PE X (.Call (.Name x p) [] [] pos) (tCallW sp W tNil) := by
  exact pe_callW0 tk F.ok hr hg F.at_ F.kp F.bd.to hdb
theorem pe_fnH (F : FnH X.prog X.w X.K X.mg X.base k x ps sp) (hr : RoomN k X.A) (hg : Gl X x) (ha : PA X (e :: es) t) (hdb : (x == ("__debug__" : Str)) = false := by decide)
    (he : starEach (e :: es) X.env = (false, eval e X.env) :: starEach es X.env := by rfl) (hpl : (backTo pos (starEach es X.env)).any (·.1) = false := by rfl) : PE X (.Call (.Name x p) (e :: es) [] pos) (tCallN sp t) := by
  exact pe_callN F.ok hr hg F.at_ F.kp F.bd.to ha hdb he hpl
theorem call_gLen : CallR X (.builtin "len") (L2.rLen X.K) := call_len
theorem call_lenK {K : PySem.W.Frag} (hK : X.K = K) : CallR X (.builtin "len") (L2.rLen K) := hK ▸ call_len
theorem op_eqK {K : PySem.W.Frag} (hK : X.K = K) (hu : X.A.units + 64 < cLine) : OpR X (compareOp .Eq) (gEq K) := hK ▸ op_gEq hu
theorem op_neK {K : PySem.W.Frag} (hK : X.K = K) (hu : X.A.units + 64 < cLine) : OpR X (compareOp .NotEq) (gNe K) := hK ▸ op_gNe hu
theorem ix_seqK {K : PySem.W.Frag} (hK : X.K = K) : IxR X (rIx K) := hK ▸ ix_seq
theorem call_isEK {K : PySem.W.Frag} (hK : X.K = K) : CallR X (.builtin "isinstance") (gIsE K) := hK ▸ call_gIsE
theorem sl_listK {K : PySem.W.Frag} (hK : X.K = K) : SlR X (rSlL K) := hK ▸ sl_list
theorem pi_listK {K : PySem.W.Frag} {tg l : Expr} {tl : TE} (hK : X.K = K) (h : PE X l tl) : PI X tg l (iList K tl) := hK ▸ pi_list h
def rListG (K : PySem.W.Frag) : List V → Hp → VK → Prop := fun xs H Q => ∃ p ys, xs = [.ref p] ∧ (SqL K H p ys ∨ SqT K H p ys) ∧ ∀ l, H l = none → Q (.ref l) (upd H l (.lst ys))
theorem call_listK {K : PySem.W.Frag} (hK : X.K = K) : CallR X (.type "list") (rListG K) := hK ▸ call_list_of
theorem pe_clsK {K : PySem.W.Frag} (hK : X.K = K) (h : X.mg x = some (.ref (ga K x))) (hg : Gl X x) (hdb : (x == ("__debug__" : Str)) = false := by decide) : PE X (.Name x pos) (tC (.ref (ga K x))) := pe_glob hg h rfl hdb
/-- a constant of the module -/
theorem pe_num {n : Int} (h : ∃ t, X.mg x = some (.int n t)) (hg : Gl X x) (hdb : (x == ("__debug__" : Str)) = false := by decide) : PE X (.Name x pos) (tC (.int n)) := by
  obtain ⟨t, e⟩ := h
  exact pe_glob hg e ⟨t, rfl⟩ hdb
theorem pe_txt {z : Str} (h : ∃ t, X.mg x = some (.str z t)) (hg : Gl X x) (hdb : (x == ("__debug__" : Str)) = false := by decide) : PE X (.Name x pos) (tC (.str z)) := by
  obtain ⟨t, e⟩ := h
  exact pe_glob hg e ⟨t, rfl⟩ hdb
/-- a class of the module as a value; a built-in class -/
theorem pe_cls (h : X.mg x = some (.ref (ga X.K x))) (hg : Gl X x) (hdb : (x == ("__debug__" : Str)) = false := by decide) : PE X (.Name x pos) (tC (.ref (ga X.K x))) := pe_glob hg h rfl hdb
theorem pe_ty {T : String} (hm : X.mg x = none) (hv : bootBuiltins x = some (.type T)) (hg : Gl X x) (hn : x ≠ "__name__" := by decide) (hdb : (x == ("__debug__" : Str)) = false := by decide) : PE X (.Name x pos) (tC (.ty T)) := pe_bltn hg hm hv rfl hn hdb
/-- raise C('..') -/
def tRaise (C : Addr) (W : WX) : TS := fun _ σ H => W (.ref C) none σ H
theorem ps_raiseK {K : PySem.W.Frag} {m : Str} {j : Nat} {p2 pos2 : Pos} (hK : X.K = K) (hc : X.calm = true) (tk : Takes X W) (h : (Fa.exc x).ok K = true) (hm : X.mg x = some (.ref (ga K x))) (hg : Gl X x) (hdb : (x == ("__debug__" : Str)) = false := by decide) :
    PS X (.Raise (some (.Call (.Name x p) [.Constant (.str m) j p2] [] pos)) none pos2) (tRaise (ga K x) W) := by
  subst hK
  obtain ⟨h1, h2, h3, h4⟩ := He.exc_ok h
  exact ps_raise hc tk (pmk_own PySem.F.excBase_ValueError h1 hm h2 (raises_own h3 h4) hg hdb)
theorem ps_raiseW {m : Str} {j : Nat} {p2 pos2 : Pos} (hc : X.calm = true) (tk : Takes X W) (h : (Fa.exc x).ok X.K = true) (hm : X.mg x = some (.ref (ga X.K x))) (hg : Gl X x) (hdb : (x == ("__debug__" : Str)) = false := by decide) :
    PS X (.Raise (some (.Call (.Name x p) [.Constant (.str m) j p2] [] pos)) none pos2) (tRaise (ga X.K x) W) := by
  obtain ⟨h1, h2, h3, h4⟩ := He.exc_ok h
  exact ps_raise hc tk (pmk_own PySem.F.excBase_ValueError h1 hm h2 (raises_own h3 h4) hg hdb)
end

/-! ## readings, step by step -/
section
variable {σ : L2.St} {H : Hp} {Q : VK} {QT : Bool → Hp → Prop} {QA : List V → Hp → Prop} {D : Ends} {v x y z : V} {i : Nat} {o : Option V} {ta tb te tc : TE} {t u c : TT} {ts us : TS} {as : TA} {r r' : R2} {g : TG} {b : Bool}
theorem x_K {CX : CXT} {P : Program} {w : World} {K : PySem.W.Frag} {mg : Str → Option Value} {base : Heap} {N : List Str} {qual : Str} {scope : Scope} {f : Addr} {cd : Value} {A : Around} {outer : List Env} {s : Shared} {E : XK} : (cxOf CX P w K mg base N qual scope f cd A outer s H E).K = K := rfl
theorem x_var0 : tVar 0 (some v :: σ) H Q = Q v H := propext ⟨fun ⟨_, e, q⟩ => by cases e; exact q, fun q => ⟨v, rfl, q⟩⟩
theorem x_varS : tVar (i + 1) (o :: σ) H Q = tVar i σ H Q := rfl
theorem x_c : tC v σ H Q = Q v H := rfl
theorem x_op : tOp r ta tb σ H Q = ta σ H fun x H1 => tb σ H1 fun y H2 => r x y H2 Q := rfl
theorem x_un {r : V → Hp → VK → Prop} : tUn r ta σ H Q = ta σ H fun x H1 => r x H1 Q := rfl
theorem x_cb {r : List V → Hp → VK → Prop} : tCB r as σ H Q = as σ H fun vs H1 => r vs H1 Q := rfl
theorem x_nil : tNil σ H QA = QA [] H := rfl
theorem x_cons : tCons te as σ H QA = te σ H fun x H1 => as σ H1 fun xs H2 => QA (x :: xs) H2 := rfl
theorem x_test : tTest te σ H QT = te σ H fun x H1 => ∃ k, x = .bl k ∧ QT k H1 := rfl
theorem x_b : tB te σ H QT = te σ H fun x H1 => ∃ k, x = .bl k ∧ QT k H1 := rfl
theorem x_ex {P : Bool → Prop} : (∃ k, V.bl b = .bl k ∧ P k) = P b := propext ⟨fun ⟨_, e, q⟩ => by cases e; exact q, fun q => ⟨b, rfl, q⟩⟩
theorem x_and : tAnd t u σ H QT = t σ H fun c H1 => if c = true then u σ H1 QT else QT false H1 := rfl
theorem x_or : tOr t u σ H QT = t σ H fun c H1 => if c = true then QT true H1 else u σ H1 QT := rfl
theorem x_not : tNot t σ H QT = t σ H fun c H1 => QT (!c) H1 := rfl
theorem x_andV : tAndV ta tb σ H Q = ta σ H fun x H1 => ∃ c, x = .bl c ∧ if c = true then tb σ H1 Q else Q (.bl false) H1 := rfl
theorem x_orV : tOrV ta tb σ H Q = ta σ H fun x H1 => ∃ c, x = .bl c ∧ if c = true then Q (.bl true) H1 else tb σ H1 Q := rfl
theorem x_notV : tNotV ta σ H Q = ta σ H fun x H1 => ∃ c, x = .bl c ∧ Q (.bl (!c)) H1 := rfl
theorem x_tif : tIf t ta tb σ H Q = t σ H fun c H1 => if c = true then ta σ H1 Q else tb σ H1 Q := rfl
theorem x_chain : tChain r r' ta tb tc σ H Q = ta σ H fun x H1 => tb σ H1 fun y H2 => r x y H2 fun z H3 => ∃ k, z = .bl k ∧ (if k = true then tc σ H3 fun u H4 => r' y u H4 Q else Q (.bl false) H3) := rfl
theorem x_menu : tMenu as te σ H Q = as σ H fun xs H1 => xs.length ≤ sizeLine ∧ te σ H1 fun y H2 => ∃ i v, y = .int i ∧ atI xs i = some v ∧ Q v H2 := rfl
theorem x_menuI {xs : List V} {n : Int} {P : V → Prop} : (∃ i v, V.int n = .int i ∧ atI xs i = some v ∧ P v) = ∃ v, atI xs n = some v ∧ P v := propext ⟨fun ⟨_, w, e, q⟩ => by cases e; exact ⟨w, q⟩, fun ⟨w, q⟩ => ⟨n, w, rfl, q⟩⟩
theorem x_lst : tLst as σ H Q = as σ H fun xs H1 => xs.length ≤ sizeLine ∧ ∀ p, H1 p = none → Q (.ref p) (upd H1 p (.lst xs)) := rfl
theorem x_tup : tTup as σ H Q = as σ H fun xs H1 => xs.length ≤ sizeLine ∧ ∀ p, H1 p = none → Q (.ref p) (upd H1 p (.tup xs)) := rfl
theorem x_dnew : tDNewK σ H Q = ∀ p, H p = none → Q (.ref p) (upd H p (.dK [])) := rfl
theorem x_callW {sp : Sp} {W : WX} : tCallW sp W as σ H Q = as σ H fun vs H1 => sp vs H1 Q fun c d H2 => W c d σ H2 := rfl
theorem x_callN {sp : Sp} : tCallN sp as σ H Q = as σ H fun vs H1 => sp vs H1 Q E0 := rfl
theorem x_seq : tSeq ts us D σ H = ts { D with nx := us D } σ H := rfl
theorem x_next : tNext D σ H = D.nx σ H := rfl
theorem x_ret : tRet te D σ H = te σ H D.rt := rfl
theorem x_retN : tRetN D σ H = D.rt .non H := rfl
theorem x_drop : tDrop te D σ H = te σ H fun _ H1 => D.nx σ H1 := rfl
theorem x_ifS : tIfS c ts us D σ H = c σ H fun b H1 => if b = true then ts D σ H1 else us D σ H1 := rfl
theorem x_asg : tAsg te g D σ H = te σ H fun x H1 => g x σ H1 D.nx := rfl
theorem x_name {N : L2.St → Hp → Prop} : gName i v σ H N = N (σ.set i (some v)) H := rfl
theorem x_raise {C : Addr} {W : WX} : tRaise C W D σ H = W (.ref C) none σ H := rfl
theorem x_start {N : List Str} {n : Str} {vs : List V} : start (n :: N) (v :: vs) = some v :: start N vs := by
  unfold L2.start
  simp only [List.map_cons, List.length_cons, List.cons_append, Nat.add_sub_add_right]
theorem x_start0 {N : List Str} : start N [] = List.replicate N.length none := by
  unfold L2.start
  simp
theorem q_str {a b : Str} (q : Q (.str a) H) (e : a = b) : Q (.str b) H := e ▸ q
theorem r_i0 {g : Int → Int → V} {a b : Int} : rI0 g (.int a) (.int b) H Q = Q (g a b) H := propext ⟨fun ⟨_, _, e, e', q⟩ => by cases e; cases e'; exact q, fun q => ⟨a, b, rfl, rfl, q⟩⟩
theorem r_i {C : Int → Int → Prop} {g : Int → Int → V} {a b : Int} : rI C g (.int a) (.int b) H Q = (C a b ∧ Q (g a b) H) := propext ⟨fun ⟨_, _, e, e', q⟩ => by cases e; cases e'; exact q, fun q => ⟨a, b, rfl, rfl, q⟩⟩
theorem r_u {g : Int → V} {a : Int} : rU g (.int a) H Q = Q (g a) H := propext ⟨fun ⟨_, e, q⟩ => by cases e; exact q, fun q => ⟨a, rfl, q⟩⟩
theorem r_addI {a b : Int} : gAdd (.int a) (.int b) H Q = Q (.int (a + b)) H := rfl
theorem r_addS {a b : Str} : gAdd (.str a) (.str b) H Q = (a.length + b.length ≤ sizeLine ∧ Q (.str (a ++ b)) H) := rfl
theorem r_mulI {a b : Int} : gMul (.int a) (.int b) H Q = (((-(2 ^ 64) < a ∧ a < 2 ^ 64) ∨ (-(2 ^ 64) < b ∧ b < 2 ^ 64)) ∧ Q (.int (a * b)) H) := rfl
theorem r_mulS {a : Str} {b : Int} : gMul (.str a) (.int b) H Q = ((b = 0 ∨ b = 1) ∧ Q (.str (if b = 1 then a else Str.empty)) H) := rfl
theorem r_eqI {K : PySem.W.Frag} {a b : Int} : gEq K (.int a) (.int b) H Q = Q (.bl (decide (a = b))) H := by
  show (if true = true then Q (.bl (a == b)) H else rEqD K (.int a) (.int b) H Q) = _
  rw [if_pos (rfl : true = true), Bool.beq_eq_decide_eq]
theorem r_neI {K : PySem.W.Frag} {a b : Int} : gNe K (.int a) (.int b) H Q = Q (.bl (!decide (a = b))) H := by
  show (if true = true then Q (.bl (!(a == b))) H else rNeD K (.int a) (.int b) H Q) = _
  rw [if_pos (rfl : true = true), Bool.beq_eq_decide_eq]
theorem r_eqF {K : PySem.W.Frag} (hx : flatV x = true) (hy : flatV y = true) : gEq K x y H Q = Q (.bl (eqV x y)) H := by unfold gEq; rw [hx, hy]; rfl
theorem r_neF {K : PySem.W.Frag} (hx : flatV x = true) (hy : flatV y = true) : gNe K x y H Q = Q (.bl (!eqV x y)) H := by unfold gNe; rw [hx, hy]; rfl
theorem r_eqS {K : PySem.W.Frag} {a b : Str} : gEq K (.str a) (.str b) H Q = Q (.bl (decide (a = b))) H := by
  show (if true = true then Q (.bl (a == b)) H else rEqD K (.str a) (.str b) H Q) = _
  rw [if_pos (rfl : true = true), Bool.beq_eq_decide_eq]
theorem r_neS {K : PySem.W.Frag} {a b : Str} : gNe K (.str a) (.str b) H Q = Q (.bl (!decide (a = b))) H := by
  show (if true = true then Q (.bl (!(a == b))) H else rNeD K (.str a) (.str b) H Q) = _
  rw [if_pos (rfl : true = true), Bool.beq_eq_decide_eq]
theorem n_ten : Int.natAbs 10 < 18446744073709551616 := by decide
theorem c_div {i j : Int} : CDiv i j = (0 < j ∧ j < 1073741824) := rfl
theorem c_pow {i j : Int} : CPow i j = (0 ≤ j ∧ j ≤ 1000000 ∧ i.natAbs < 2 ^ 64) := rfl
theorem r_absI {a : Int} : gAbs [.int a] H Q = Q (.int (a.natAbs : Int)) H := rfl
theorem r_intI {a : Int} : gInt [.int a] H Q = Q (.int a) H := rfl
theorem r_intB {k : Bool} : gInt [.bl k] H Q = Q (.int (if k then 1 else 0)) H := rfl
theorem r_lenL {K : PySem.W.Frag} {a : Addr} {xs : List V} (h : H a = some (.lst xs)) (q : Q (.int (xs.length : Int)) H) : L2.rLen K [.ref a] H Q := ⟨_, _, rfl, .inl ⟨_, SqL.of h, rfl⟩, q⟩
end
end G
namespace G
open PySem PySem.Spec PyProof.Rows L2
open He (ga ma fAd Fa DefD SaysD)
/-! ## classes of the module: fields, methods, instances -/
section
variable {fa : List Fa} {fn : List DefD} {xl : XL} {K : PySem.W.Frag} {mg : Str → Option Value}
theorem Told.cls (T : Told fa fn xl K mg) (i : Nat) {x : Str} (h : fa[i]? = some (.cls x) := by rfl) : Cls K (ga K x) := He.cls_ok (T.says.fact i h)
theorem Told.noat (T : Told fa fn xl K mg) (i : Nat) {x f : Str} (h : fa[i]? = some (.noat x f) := by rfl) : NoAttr K (ga K x) f := He.noat_ok (T.says.fact i h)
end
/-- x holds v in its field f, an instance of the class at C -/
def FldIs (C : Addr) (f : Str) (x : V) (H : Hp) (v : V) : Prop := ∃ a dx fs, x = .ref a ∧ H a = some (.ins C dx fs) ∧ fs.lookup f = some v
theorem fldIs {C : Addr} {f : Str} {a dx : Addr} {H : Hp} {fs : List (Str × V)} {v : V} (h : H a = some (.ins C dx fs)) (e : fs.lookup f = some v := by rfl) : FldIs C f (.ref a) H v := ⟨a, dx, fs, rfl, h, e⟩
def gFld (C : Addr) (ta : TE) (f : Str) : TE := fun σ H Q => ta σ H fun x H1 => ∃ v, FldIs C f x H1 v ∧ Q v H1
def gSetF (C : Addr) (ta tv : TE) (f : Str) : TS := fun D σ H => tv σ H fun y H1 => ta σ H1 fun x H2 => ∃ a dx fs, x = .ref a ∧ H2 a = some (.ins C dx fs) ∧ fs.length < 1000 ∧ D.nx σ (upd H2 a (.ins C dx (putF f y fs)))
section
variable {X : Cx} {C : Addr} {o e value : Expr} {f : Str} {pos pos' : Pos} {ta tv : TE}
theorem pe_fldC (c : Cls X.K C) (n : NoAttr X.K C f) (he : PE X e ta) (hb : attributeBase e f X.env (eval e X.env) = eval e X.env := by rfl) : PE X (.Attribute e f pos) (gFld C ta f) := by
  refine ⟨fun pins s σ H Q I h => attr_of hb (thn (he.run pins s σ H _ I h) fun u s1 hh => ?_)⟩
  obtain ⟨x, H1, I1, rx, v, ⟨a, dx, fs, ex, ea, l⟩, q⟩ := hh
  subst ex
  obtain rfl : u = Value.ref a := rx
  exact getattr_ok I1 ea c n l fun _ _ I2 ru => ⟨v, H1, I2, ru, q⟩
theorem ps_fldC (c : Cls X.K C) (n : NoAttr X.K C f) (ha : PE X o ta) (hv : PE X value tv) (hs : swapsWith value (some (.Attribute o f pos')) pos.line X.env = pure false := by rfl) : PS X (.Assign [.Attribute o f pos'] value pos) (gSetF C ta tv f) := by
  refine ⟨fun pins s σ H D I h => plainObj_wpAny_Assign_Attribute (thn (hv.run pins s σ H _ I h) fun u s1 hh => ?_) hs⟩
  obtain ⟨y, H1, I1, ry, q⟩ := hh
  refine thn (ha.run pins s1 σ H1 _ I1 q) fun ov s2 h2 => ?_
  obtain ⟨x, H2, I2, rx, a, dx, fs, ex, ea, l, q2⟩ := h2
  subst ex
  obtain rfl : ov = Value.ref a := rx
  exact setattr_ok I2 ea c n l ry fun _ I3 => ⟨σ, _, I3, q2⟩
end
/-- a method of a class of the module: its promise -/
structure Mt (P : Program) (w : World) (K : PySem.W.Frag) (mg : Str → Option Value) (base : Heap) (k : Nat) (C m : Str) (ps : List Str) (sp : Sp) : Prop where
  ok : FnOk P w K mg base (L2.CX P w) k (ma K (ga K C) m) (fdAt K (ma K (ga K C) m)) ps sp
  bd : Bnd (fdAt K (ma K (ga K C) m)) ps
  me : Meth K (ga K C) m (ma K (ga K C) m)
  cl : Cls K (ga K C)
/-- the __init__ of a class -/
structure Mi (P : Program) (w : World) (K : PySem.W.Frag) (mg : Str → Option Value) (base : Heap) (k : Nat) (C : Str) (ps : List Str) (sp : Sp) : Prop where
  ok : FnOk P w K mg base (L2.CX P w) k (ma K (ga K C) "__init__") (fdAt K (ma K (ga K C) "__init__")) ps sp
  bd : Bnd (fdAt K (ma K (ga K C) "__init__")) ps
  mkr : Mk K (ga K C) (ma K (ga K C) "__init__")
  at_ : mg C = some (.ref (ga K C))
section
variable {fa : List Fa} {fn : List DefD} {xl : XL} {P : Program} {w : World} {K : PySem.W.Frag} {mg : Str → Option Value} {base : Heap}
theorem Told.mkAny (T : Told fa fn xl K mg) (i : Nat) {d : DefD} {f : Addr} {N ps : List Str} {k : Nat} {sp : Sp} (hd : fn[i]? = some d) (hx : fAd K d.at_ = f) (h0 : d.dfl = []) (h1 : d.kwd = []) (S : FnScope N ps d.scope)
    (bnd : ∀ (kV doc pm : Value) (an : Option Addr) (cdv ct : Value) (us : List Value), us.length = ps.length → bindArgs (PySem.W.fnOf d.name d.qual d.params d.body d.scope .none kV doc pm an cdv ct) ⟨us, []⟩ = pure (ps.zip us))
    (len : ∀ vs H Q E, sp vs H Q E → vs.length = ps.length)
    (body : ∀ (cdv : Value) (A : Around) (outer : List Env) (s : Shared) (H : Hp) (vs : List V) (Q : VK) (E : XK), Room k (A.deeper (envOfC d.qual d.scope s.heap.objs.size f cdv)) → sp vs H Q E →
      ∃ t, PSs (cxOf (L2.CX P w) P w K mg base N d.qual d.scope f cdv A outer s H E) d.body t ∧ t { nx := fun _ H' => Q .non H', rt := Q } (start N vs) H) : FnOk P w K mg base (L2.CX P w) (k + 1) f (fdAt K f) ps sp ∧ Bnd (fdAt K f) ps := by
  obtain ⟨fd, F⟩ := T.says.def_ i hd
  have e0 : d.dvs K = [] := by unfold DefD.dvs; rw [h0]; rfl
  have e1 : d.kws K = [] := by unfold DefD.kws; rw [h1]; rfl
  rw [hx, e0, e1] at F
  have ef := fdAt_of F
  subst ef
  exact ⟨F.ok S len body, F.bindsA bnd⟩
theorem Told.mkMt (T : Told fa fn xl K mg) (i j l : Nat) {d : DefD} {C m : Str} {N ps : List Str} {k : Nat} {sp : Sp} (hd : fn[i]? = some d) (hx : d.at_ = (C, some m)) (h0 : d.dfl = []) (h1 : d.kwd = []) (hg : fa[j]? = some (.meth C m)) (hc : fa[l]? = some (.cls C)) (S : FnScope N ps d.scope)
    (bnd : ∀ (kV doc pm : Value) (an : Option Addr) (cdv ct : Value) (us : List Value), us.length = ps.length → bindArgs (PySem.W.fnOf d.name d.qual d.params d.body d.scope .none kV doc pm an cdv ct) ⟨us, []⟩ = pure (ps.zip us))
    (len : ∀ vs H Q E, sp vs H Q E → vs.length = ps.length)
    (body : ∀ (cdv : Value) (A : Around) (outer : List Env) (s : Shared) (H : Hp) (vs : List V) (Q : VK) (E : XK), Room k (A.deeper (envOfC d.qual d.scope s.heap.objs.size (ma K (ga K C) m) cdv)) → sp vs H Q E →
      ∃ t, PSs (cxOf (L2.CX P w) P w K mg base N d.qual d.scope (ma K (ga K C) m) cdv A outer s H E) d.body t ∧ t { nx := fun _ H' => Q .non H', rt := Q } (start N vs) H) : Mt P w K mg base (k + 1) C m ps sp := by
  obtain ⟨a, b⟩ := T.mkAny (P := P) (w := w) (base := base) i hd (by rw [hx]; rfl) h0 h1 S bnd len body
  exact ⟨a, b, He.meth_ok (T.says.fact j hg), T.cls l hc⟩
theorem Told.mkMi (T : Told fa fn xl K mg) (i j l : Nat) {d : DefD} {C : Str} {N ps : List Str} {k : Nat} {sp : Sp} (hd : fn[i]? = some d) (hx : d.at_ = (C, some ("__init__" : Str))) (h0 : d.dfl = []) (h1 : d.kwd = []) (hg : fa[j]? = some (.mkr C)) (hc : fa[l]? = some (.glo C)) (S : FnScope N ps d.scope)
    (bnd : ∀ (kV doc pm : Value) (an : Option Addr) (cdv ct : Value) (us : List Value), us.length = ps.length → bindArgs (PySem.W.fnOf d.name d.qual d.params d.body d.scope .none kV doc pm an cdv ct) ⟨us, []⟩ = pure (ps.zip us))
    (len : ∀ vs H Q E, sp vs H Q E → vs.length = ps.length)
    (body : ∀ (cdv : Value) (A : Around) (outer : List Env) (s : Shared) (H : Hp) (vs : List V) (Q : VK) (E : XK), Room k (A.deeper (envOfC d.qual d.scope s.heap.objs.size (ma K (ga K C) "__init__") cdv)) → sp vs H Q E →
      ∃ t, PSs (cxOf (L2.CX P w) P w K mg base N d.qual d.scope (ma K (ga K C) "__init__") cdv A outer s H E) d.body t ∧ t { nx := fun _ H' => Q .non H', rt := Q } (start N vs) H) : Mi P w K mg base (k + 1) C ps sp := by
  obtain ⟨a, b⟩ := T.mkAny (P := P) (w := w) (base := base) i hd (by rw [hx]; rfl) h0 h1 S bnd len body
  exact ⟨a, b, He.mkr_ok (T.says.fact j hg), T.glo l hc⟩
end
/-- x is an instance of the class at C, its attributes none of the name m -/
def Recv (C : Addr) (m : Str) (x : V) (H : Hp) : Prop := ∃ a dx fs, x = .ref a ∧ H a = some (.ins C dx fs) ∧ fs.lookup m = none
theorem recv {C : Addr} {m : Str} {a dx : Addr} {H : Hp} {fs : List (Str × V)} (h : H a = some (.ins C dx fs)) (e : fs.lookup m = none := by rfl) : Recv C m (.ref a) H := ⟨a, dx, fs, rfl, h, e⟩
section
variable {X : Cx} {k : Nat} {C m : Str} {ps : List Str} {sp : Sp} {W : WX} {p pos apos : Pos} {o e : Expr} {es : List Expr} {ta : TE} {t : TA}
def gMeth (C : Addr) (m : Str) (sp : Sp) (W : WX) (ta : TE) (t : TA) : TE := fun σ H Q => ta σ H fun x H1 => Recv C m x H1 ∧ t σ H1 fun vs H2 => sp (x :: vs) H2 Q fun c d H3 => W c d σ H3
theorem pe_mt {pl : Sem Bool} {K : PySem.W.Frag} (hK : X.K = K) (tk : Takes X W) (he : PE X o ta) (F : Mt X.prog X.w K X.mg X.base k C m ps sp) (hr : Room k X.A) (ha : PA X (e :: es) t)
    (hst : starEach (e :: es) X.env = (false, eval e X.env) :: starEach es X.env := by rfl) (hpl : (backTo pos (starEach es X.env)).any (·.1) = false := by rfl)
    (ht : eval (.Call (.Attribute o m apos) (e :: es) [] pos) X.env = (do
      let z ← eval o X.env
      standAt apos.atName
      let (g, one) ← holding [z] (getMethod z m pl)
      callWith pos g one (backTo pos (starEach (e :: es) X.env)) (backToKw pos (keywordEach [] X.env))) := by rfl) :
    PE X (.Call (.Attribute o m apos) (e :: es) [] pos) (gMeth (ga K C) m sp W ta t) := by
  subst hK
  refine ⟨fun pins s σ H Q I h => ?_⟩
  refine PySem.W.methodCall_KW (pl := pl) (thn (he.run pins s σ H _ I h) fun u s1 hh => ?_) ht
  obtain ⟨y, H1, I1, ry, ⟨a, dx, fs, ey, ea, l⟩, q⟩ := hh
  subst ey
  obtain rfl : u = Value.ref a := ry
  refine getmeth_ok I1 ea F.cl F.me l ?_
  refine PySem.W.callWith_K (first := [.ref a]) (h₀ := X.base) I.ok.mod.kin F.me.kp (thn (ha.run pos pins s1 σ H1 _ I1 q) fun us s2 h2 => ?_) hst hpl
  obtain ⟨vs, H2, I2, r, q2⟩ := h2
  exact ⟨I2.kIn, run_fnS (us := .ref a :: us) (vs := .ref a :: vs) (E := WE W) F.ok hr F.bd.to (passAt tk σ) I2 (.cons rfl r) q2⟩
theorem pe_mt0 {pl : Sem Bool} {K : PySem.W.Frag} (hK : X.K = K) (tk : Takes X W) (he : PE X o ta) (F : Mt X.prog X.w K X.mg X.base k C m ps sp) (hr : Room k X.A)
    (ht : eval (.Call (.Attribute o m apos) [] [] pos) X.env = (do
      let z ← eval o X.env
      standAt apos.atName
      let (g, one) ← holding [z] (getMethod z m pl)
      callWith pos g one (backTo pos (starEach [] X.env)) (backToKw pos (keywordEach [] X.env))) := by rfl) :
    PE X (.Call (.Attribute o m apos) [] [] pos) (gMeth (ga K C) m sp W ta tNil) := by
  subst hK
  refine ⟨fun pins s σ H Q I h => ?_⟩
  refine PySem.W.methodCall_KW (pl := pl) (thn (he.run pins s σ H _ I h) fun u s1 hh => ?_) ht
  obtain ⟨y, H1, I1, ry, ⟨a, dx, fs, ey, ea, l⟩, q⟩ := hh
  subst ey
  obtain rfl : u = Value.ref a := ry
  refine getmeth_ok I1 ea F.cl F.me l ?_
  exact PySem.W.callWith_K0 (first := [.ref a]) I1.kIn F.me.kp (run_fnS (us := [.ref a]) (vs := [.ref a]) (E := WE W) F.ok hr F.bd.to (passAt tk σ) I1 (.cons rfl .nil) q)
theorem pe_mk {K : PySem.W.Frag} (hK : X.K = K) (tk : Takes X W) (F : Mi X.prog X.w K X.mg X.base k C ps sp) (hr : Room (k + 1) X.A) (hg : Gl X C) (ha : PA X (e :: es) t) (hdb : (C == ("__debug__" : Str)) = false := by decide)
    (he : starEach (e :: es) X.env = (false, eval e X.env) :: starEach es X.env := by rfl) (hpl : (backTo pos (starEach es X.env)).any (·.1) = false := by rfl) : PE X (.Call (.Name C p) (e :: es) [] pos) (tMakeW (ga K C) sp W t) := by
  subst hK
  exact pe_makeW tk F.mkr F.ok hr hg F.at_ F.bd.to ha hdb he hpl
theorem pe_mk0 {K : PySem.W.Frag} (hK : X.K = K) (tk : Takes X W) (F : Mi X.prog X.w K X.mg X.base k C ps sp) (hr : Room (k + 1) X.A) (hg : Gl X C) (hdb : (C == ("__debug__" : Str)) = false := by decide) : PE X (.Call (.Name C p) [] [] pos) (tMakeW (ga K C) sp W tNil) := by
  subst hK
  exact pe_makeW0 tk F.mkr F.ok hr hg F.at_ F.bd.to hdb
/-- least, greatest of two -/
def gMin : List V → Hp → VK → Prop
  | [.int i, .int j], H, Q => Q (.int (min i j)) H
  | _, _, _ => False
def gMax : List V → Hp → VK → Prop
  | [.int i, .int j], H, Q => Q (.int (max i j)) H
  | _, _, _ => False
theorem call_gMin (hc : X.calm = true) : CallR X (.builtin "min") gMin := by
  intro pins s σ H xs us Q I r h
  unfold gMin at h
  split at h
  · rename_i i j
    refine call_min2 hc pins s σ _ _ us Q I r ⟨i, j, rfl, ?_⟩
    have e : (if j < i then j else i) = min i j := by split <;> omega
    rw [e]
    exact h
  · exact h.elim
theorem call_gMax (hc : X.calm = true) : CallR X (.builtin "max") gMax := by
  intro pins s σ H xs us Q I r h
  unfold gMax at h
  split at h
  · rename_i i j
    refine call_max2 hc pins s σ _ _ us Q I r ⟨i, j, rfl, ?_⟩
    have e : (if j > i then j else i) = max i j := by split <;> omega
    rw [e]
    exact h
  · exact h.elim
end
section
variable {σ : L2.St} {H : Hp} {Q : VK} {D : Ends} {C : Addr} {f m : Str} {ta tv : TE} {as : TA} {sp : Sp} {W : WX} {a b : Int} {y x i : V} {S : TSet}
theorem x_fld : gFld C ta f σ H Q = ta σ H fun x H1 => ∃ v, FldIs C f x H1 v ∧ Q v H1 := rfl
theorem x_setF : gSetF C ta tv f D σ H = tv σ H fun y H1 => ta σ H1 fun x H2 => ∃ a dx fs, x = .ref a ∧ H2 a = some (.ins C dx fs) ∧ fs.length < 1000 ∧ D.nx σ (upd H2 a (.ins C dx (putF f y fs))) := rfl
theorem x_meth : gMeth C m sp W ta as σ H Q = ta σ H fun x H1 => Recv C m x H1 ∧ as σ H1 fun vs H2 => sp (x :: vs) H2 Q fun c d H3 => W c d σ H3 := rfl
theorem x_make : tMakeW C sp W as σ H Q = as σ H fun vs H1 => ∀ x dx, H1 x = none → H1 dx = none → dx ≠ x → sp (.ref x :: vs) (upd (upd H1 dx (.own x)) x (.ins C dx [])) (fun v H2 => v = .non ∧ Q (.ref x) H2) fun c d H3 => W c d σ H3 := rfl
theorem x_sub {to ti : TE} {N : L2.St → Hp → Prop} : gSub to ti S y σ H N = to σ H fun o H1 => ti σ H1 fun i H2 => S o i y H2 fun H3 => N σ H3 := rfl
theorem r_min : gMin [.int a, .int b] H Q = Q (.int (min a b)) H := rfl
theorem r_max : gMax [.int a, .int b] H Q = Q (.int (max a b)) H := rfl
/-- a store to a list at i -/
theorem r_setL {p : Addr} {xs : List V} {k : Int} {N : Hp → Prop} (h : H p = some (.lst xs)) (h0 : 0 ≤ k) (h1 : k < xs.length) (q : N (upd H p (.lst (xs.set k.toNat y)))) : rSetL (.ref p) (.int k) y H N :=
  ⟨p, xs, k, k.toNat, rfl, rfl, h, by unfold ixN; rw [if_pos h0, if_pos h1], q⟩
end
end G
namespace G
open PySem PySem.Spec PyProof.Rows L2
/-! ## comprehensions whose parts leave the heap as it is -/
section
variable {σ : L2.St} {vs : List Nat} {H1 : Hp} {D : Addr} {Qd : Hp → Prop} {te : TE} {tt : TT} {k : Nat} {f : Nat → V} {K : PySem.W.Frag} {a : Addr} {xs : List V}
theorem tYes_on {σ2 : L2.St} {H : Hp} {A B : Hp → Prop} (h : A H) : tYes σ2 H fun b H3 => if b = true then A H3 else B H3 := by
  show (if true = true then A H else B H)
  rw [if_pos (rfl : true = true)]
  exact h
/-- [e for x in range(..)] -/
theorem lc_mapR {lo : Int} {n : Nat} (f : Nat → V) (hw : ∀ v, wipe ((wipe σ vs).set k (some v)) vs = wipe σ vs) (hn : n ≤ sizeLine)
    (he : ∀ i, i < n → ∀ acc (Q : VK), Q (f i) (upd H1 D (.lst acc)) → te ((wipe σ vs).set k (some (.int (lo + i)))) (upd H1 D (.lst acc)) Q) (hd : Qd (upd H1 D (.lst ((List.range n).map f)))) :
    ∃ W : Nat → Nat → Hp → Prop, (∃ m, W 0 m (upd H1 D (.lst []))) ∧ ∀ i m H, W i m H →
      ((Itr lo n).stop i H ∧ Qd H) ∨ ((Itr lo n).go i H ∧ ∃ Nx : Hp → Prop, (∀ H', Nx H' → ∃ m', m' < m ∧ W (i + 1) m' H') ∧ ∀ x H', (Itr lo n).yld i H x H' → gName k x (wipe σ vs) H' fun σ2 H2 => wipe σ2 vs = wipe σ vs ∧ tYes σ2 H2 fun b H3 =>
        if b = true then te σ2 H3 fun y H4 => ∃ acc, H4 D = some (.lst acc) ∧ acc.length < sizeLine ∧ Nx (upd H4 D (.lst (acc ++ [y]))) else Nx H3) := by
  refine lc_range (Qd := Qd) (fun i H => H = upd H1 D (.lst ((List.range i).map f))) rfl ?_ fun H e => by rw [e]; exact hd
  rintro i H hi rfl
  refine ⟨hw _, tYes_on (he i hi _ _ ⟨_, upd_same, by rw [List.length_map, List.length_range]; omega, ?_⟩)⟩
  rw [upd_upd, List.range_succ, List.map_append]
  rfl
/-- [e for x in xs] -/
theorem lc_mapL {ys : List V} (hw : ∀ v, wipe ((wipe σ vs).set k (some v)) vs = wipe σ vs) (hl : ∀ acc, SqL K (upd H1 D (.lst acc)) a xs) (hn : xs.length ≤ sizeLine) (hy : ys.length = xs.length)
    (he : ∀ (i : Nat) (x y : V), xs[i]? = some x → ys[i]? = some y → ∀ acc (Q : VK), Q y (upd H1 D (.lst acc)) → te ((wipe σ vs).set k (some x)) (upd H1 D (.lst acc)) Q) (hd : Qd (upd H1 D (.lst ys))) :
    ∃ W : Nat → Nat → Hp → Prop, (∃ m, W 0 m (upd H1 D (.lst []))) ∧ ∀ i m H, W i m H →
      ((Itl K a).stop i H ∧ Qd H) ∨ ((Itl K a).go i H ∧ ∃ Nx : Hp → Prop, (∀ H', Nx H' → ∃ m', m' < m ∧ W (i + 1) m' H') ∧ ∀ x H', (Itl K a).yld i H x H' → gName k x (wipe σ vs) H' fun σ2 H2 => wipe σ2 vs = wipe σ vs ∧ tYes σ2 H2 fun b H3 =>
        if b = true then te σ2 H3 fun y H4 => ∃ acc, H4 D = some (.lst acc) ∧ acc.length < sizeLine ∧ Nx (upd H4 D (.lst (acc ++ [y]))) else Nx H3) := by
  refine lc_list (Qd := Qd) (xs := xs) (fun i H => H = upd H1 D (.lst (ys.take i))) (by rfl) (fun i H _ e => by rw [e]; exact hl _) ?_ fun H e => by
    rw [e, ← hy, List.take_length]
    exact hd
  rintro i x H hi rfl
  have hlt : i < ys.length := by rw [hy]; exact (List.getElem?_eq_some_iff.mp hi).1
  refine ⟨hw _, tYes_on (he i x ys[i] hi (List.getElem?_eq_getElem hlt) _ _ ⟨_, upd_same, by rw [List.length_take]; omega, ?_⟩)⟩
  rw [upd_upd, List.take_succ_eq_append_getElem hlt]
/-- [e for x in xs if t], ys the kept ones, by the places of what is kept -/
theorem lc_iffL {g : V → Option V} (hw : ∀ v, wipe ((wipe σ vs).set k (some v)) vs = wipe σ vs) (hl : ∀ acc, SqL K (upd H1 D (.lst acc)) a xs) (hn : xs.length ≤ sizeLine)
    (he : ∀ (i : Nat) (x : V), xs[i]? = some x → ∀ acc (N : Bool → Hp → Prop), ((g x).isSome = true → N true (upd H1 D (.lst acc))) → ((g x).isSome = false → N false (upd H1 D (.lst acc))) → tt ((wipe σ vs).set k (some x)) (upd H1 D (.lst acc)) N)
    (hy : ∀ (i : Nat) (x y : V), xs[i]? = some x → g x = some y → ∀ acc (Q : VK), Q y (upd H1 D (.lst acc)) → te ((wipe σ vs).set k (some x)) (upd H1 D (.lst acc)) Q) (hd : Qd (upd H1 D (.lst (xs.filterMap g)))) :
    ∃ W : Nat → Nat → Hp → Prop, (∃ m, W 0 m (upd H1 D (.lst []))) ∧ ∀ i m H, W i m H →
      ((Itl K a).stop i H ∧ Qd H) ∨ ((Itl K a).go i H ∧ ∃ Nx : Hp → Prop, (∀ H', Nx H' → ∃ m', m' < m ∧ W (i + 1) m' H') ∧ ∀ x H', (Itl K a).yld i H x H' → gName k x (wipe σ vs) H' fun σ2 H2 => wipe σ2 vs = wipe σ vs ∧ tt σ2 H2 fun b H3 =>
        if b = true then te σ2 H3 fun y H4 => ∃ acc, H4 D = some (.lst acc) ∧ acc.length < sizeLine ∧ Nx (upd H4 D (.lst (acc ++ [y]))) else Nx H3) := by
  refine lc_list (Qd := Qd) (xs := xs) (fun i H => H = upd H1 D (.lst ((xs.take i).filterMap g))) (by rfl) (fun i H _ e => by rw [e]; exact hl _) ?_ fun H e => by
    rw [e, List.take_length]
    exact hd
  rintro i x H hi rfl
  have hlt : i < xs.length := (List.getElem?_eq_some_iff.mp hi).1
  have ex : xs[i] = x := by rw [List.getElem?_eq_getElem hlt] at hi; exact Option.some.inj hi
  have small : ((xs.take i).filterMap g).length < sizeLine := Nat.lt_of_le_of_lt (List.length_filterMap_le _ _) (by rw [List.length_take]; omega)
  refine ⟨hw _, he i x hi _ _ (fun c => ?_) fun c => ?_⟩
  · obtain ⟨y, ey⟩ := Option.isSome_iff_exists.mp c
    rw [if_pos (rfl : true = true)]
    refine hy i x y hi ey _ _ ⟨_, upd_same, small, ?_⟩
    rw [upd_upd, List.take_succ_eq_append_getElem hlt, List.filterMap_append, ex]
    simp only [List.filterMap_cons, ey, List.filterMap_nil]
  · rw [if_neg Bool.false_ne_true, List.take_succ_eq_append_getElem hlt, List.filterMap_append, ex]
    have e0 : g x = none := by cases e : g x with
      | none => rfl
      | some y => rw [e] at c; cases c
    simp only [List.filterMap_cons, e0, List.filterMap_nil, List.append_nil]
end
/-- a statement, then the rest, by what holds between them -/
def tCut (t u : TS) : TS := fun D σ H => ∃ M : L2.St → Hp → Prop, t { D with nx := M } σ H ∧ ∀ σ' H', M σ' H' → u D σ' H'
theorem pss_cut {X : Cx} {st : Stmt} {rest : List Stmt} {t u : TS} (h1 : PS X st t) (h2 : PSs X rest u) : PSs X (st :: rest) (tCut t u) := by
  refine ⟨fun pins s σ H D I h => ?_⟩
  obtain ⟨M, a, b⟩ := h
  refine wpAny_execs_cons (thn (h1.run pins s σ H { D with nx := M } I a) fun f s1 q => ?_)
  cases f with
  | next => exact q.elim fun σ1 z => z.elim fun H1 y => h2.run pins s1 σ1 H1 D y.1 (b σ1 H1 y.2)
  | ret v => exact q
  | brk => exact q
  | cont => exact q
/-- what is wanted of a loop over J; of a comprehension -/
def ForW (J : It) (g : TG) (tb : TS) (D : Ends) (σ : L2.St) (H : Hp) : Prop := ∃ W : Nat → Nat → L2.St → Hp → Prop, (∃ m, W 0 m σ H) ∧ ∀ i m σ H, W i m σ H →
  (J.stop i H ∧ D.nx σ H) ∨ (J.go i H ∧ ∃ N : L2.St → Hp → Prop, (∀ σ' H', N σ' H' → ∃ m', m' < m ∧ W (i + 1) m' σ' H') ∧ ∀ x H', J.yld i H x H' → g x σ H' fun σ2 H2 => tb { D with nx := N, ct := N, bk := D.nx } σ2 H2)
def LcW (J : It) (g : TG) (tt : TT) (te : TE) (vs : List Nat) (σ : L2.St) (H1 : Hp) (Q : VK) : Prop := ∀ D, H1 D = none → ∃ W : Nat → Nat → Hp → Prop, (∃ m, W 0 m (upd H1 D (.lst []))) ∧ ∀ i m H, W i m H →
  (J.stop i H ∧ Q (.ref D) H) ∨ (J.go i H ∧ ∃ Nx : Hp → Prop, (∀ H', Nx H' → ∃ m', m' < m ∧ W (i + 1) m' H') ∧ ∀ x H', J.yld i H x H' → g x (wipe σ vs) H' fun σ2 H2 => wipe σ2 vs = wipe σ vs ∧ tt σ2 H2 fun b H3 =>
    if b = true then te σ2 H3 fun y H4 => ∃ acc, H4 D = some (.lst acc) ∧ acc.length < sizeLine ∧ Nx (upd H4 D (.lst (acc ++ [y]))) else Nx H3)
section
variable {σ : L2.St} {H : Hp} {Q : VK} {D : Ends} {wi : TI} {g : TG} {tb : TS} {tt : TT} {te : TE} {ta : TA} {vs : List Nat} {R : It → Hp → Prop} {K : PySem.W.Frag} {a b : Addr} {n m : Int}
theorem x_for : tFor wi g tb D σ H = wi σ H fun J H1 => ForW J g tb D σ H1 := rfl
theorem x_lc : tLc wi g tt te vs σ H Q = wi σ H fun J H1 => LcW J g tt te vs σ H1 Q := rfl
theorem x_rng1 : iRng1 ta σ H R = ta σ H fun vs H1 => ∃ j : Int, vs = [.int j] ∧ -(2 ^ 62) ≤ j ∧ j < 2 ^ 62 ∧ R (Itr 0 j.toNat) H1 := rfl
theorem x_rng2 : iRng2 ta σ H R = ta σ H fun vs H1 => ∃ i j : Int, vs = [.int i, .int j] ∧ (-(2 ^ 62) ≤ i ∧ i < 2 ^ 62 ∧ -(2 ^ 62) ≤ j ∧ j < 2 ^ 62) ∧ R (Itr i (j - i).toNat) H1 := rfl
theorem x_lst1 {tl : TE} : iList K tl σ H R = tl σ H fun x H1 => ∃ a, x = .ref a ∧ (∃ xs, SqL K H1 a xs) ∧ R (Itl K a) H1 := rfl
theorem x_one {P : Int → Prop} : (∃ j : Int, [V.int n] = [V.int j] ∧ P j) = P n := propext ⟨fun ⟨_, e, q⟩ => by cases e; exact q, fun q => ⟨n, rfl, q⟩⟩
theorem x_two {P : Int → Int → Prop} : (∃ i j : Int, [V.int n, V.int m] = [V.int i, V.int j] ∧ P i j) = P n m := propext ⟨fun ⟨_, _, e, q⟩ => by cases e; exact q, fun q => ⟨n, m, rfl, q⟩⟩
theorem x_adr {P : Addr → Prop} : (∃ b, V.ref a = V.ref b ∧ P b) = P a := propext ⟨fun ⟨_, e, q⟩ => by cases e; exact q, fun q => ⟨a, rfl, q⟩⟩
theorem x_sl {r : V → Option Int → Option Int → Hp → VK → Prop} {tl th : TO} : tSl r te tl th σ H Q = te σ H fun x H1 => tl σ H1 fun l H2 => th σ H2 fun u H3 => r x l u H3 Q := rfl
theorem x_np {QO : Option Int → Hp → Prop} : tNoPart σ H QO = QO none H := rfl
theorem x_pt {QO : Option Int → Hp → Prop} : tPart te σ H QO = te σ H fun x H1 => ∃ i, x = .int i ∧ QO (some i) H1 := rfl
theorem x_int {P : Int → Prop} : (∃ j : Int, V.int n = V.int j ∧ P j) = P n := propext ⟨fun ⟨_, e, q⟩ => by cases e; exact q, fun q => ⟨n, rfl, q⟩⟩
theorem x_bm {T : String} {r : V → List V → Hp → VK → Prop} : tBM K T r te ta σ H Q = te σ H fun x H1 => tyV K T x H1 ∧ ta σ H1 fun xs H2 => r x xs H2 Q := rfl
theorem x_bm0 {T : String} {r : V → List V → Hp → VK → Prop} : tBM0 K T r te σ H Q = te σ H fun x H1 => tyV K T x H1 ∧ r x [] H1 Q := rfl
theorem x_tupg {ts : TGs} {n : Nat} {v : V} {N : L2.St → Hp → Prop} : gTup K n ts v σ H N = ∃ a xs, v = .ref a ∧ SqT K H a xs ∧ xs.length = n ∧ ts xs σ H N := rfl
theorem x_consg {t : TG} {u : TGs} {v : V} {r : List V} {N : L2.St → Hp → Prop} : gCons t u (v :: r) σ H N = t v σ H fun σ' H' => u r σ' H' N := propext ⟨fun ⟨_, _, e, q⟩ => by cases e; exact q, fun q => ⟨v, r, rfl, q⟩⟩
theorem x_nilg {N : L2.St → Hp → Prop} : gNil [] σ H N = N σ H := propext ⟨fun z => z.2, fun z => ⟨rfl, z⟩⟩
theorem x_cut {t u : TS} : tCut t u D σ H = ∃ M : L2.St → Hp → Prop, t { D with nx := M } σ H ∧ ∀ σ' H', M σ' H' → u D σ' H' := rfl
theorem x_dget2 {td ty tx : TE} : tDGet2 td ty tx σ H Q = td σ H fun x H1 => ∃ a, x = .ref a ∧ IsD H1 a ∧ ty σ H1 fun y H2 => tx σ H2 fun z H3 => ∃ o, DGet H3 a y o ∧ Q (o.getD z) H3 := rfl
theorem x_dget1 {td ty : TE} : tDGet1 td ty σ H Q = td σ H fun x H1 => ∃ a, x = .ref a ∧ IsD H1 a ∧ ty σ H1 fun y H2 => ∃ o, DGet H2 a y o ∧ Q (o.getD .non) H2 := rfl
theorem x_dget {td ty : TE} : tDGet td ty σ H Q = td σ H fun x H1 => ty σ H1 fun y H2 => ∃ a v, x = .ref a ∧ DGet H2 a y (some v) ∧ Q v H2 := rfl
theorem x_din {td ty : TE} : tDIn ty td σ H Q = ty σ H fun y H1 => td σ H1 fun x H2 => ∃ a o, x = .ref a ∧ DGet H2 a y o ∧ Q (.bl o.isSome) H2 := rfl
theorem x_dni {td ty : TE} : tDNotIn ty td σ H Q = ty σ H fun y H1 => td σ H1 fun x H2 => ∃ a o, x = .ref a ∧ DGet H2 a y o ∧ Q (.bl (!o.isSome)) H2 := rfl
theorem x_dput {td ty tv : TE} : sDPut td ty tv D σ H = tv σ H fun v H1 => td σ H1 fun x H2 => ty σ H2 fun y H3 => ∃ a H4, x = .ref a ∧ DPut H3 a y v H4 ∧ D.nx σ H4 := rfl
theorem isD_k {kvs : List (Key × V)} (h : H a = some (.dK kvs)) : IsD H a := .inl ⟨kvs, .inl h⟩
theorem dget_i {kvs : List (Key × V)} {i : Int} (h : H a = some (.dK kvs)) : DGet H a (.int i) (valV kvs (.inl i : Key)) := DGet.k (k := .inl i) h
theorem dput_i {kvs : List (Key × V)} {i : Int} {v : V} (h : H a = some (.dK kvs)) (hl : kvs.length < sizeLine) : DPut H a (.int i) v (upd H a (.dK (putK kvs (.inl i : Key) v))) := DPut.k (k := .inl i) h hl
theorem forW_range {lo : Int} {n : Nat} (Pv : Nat → L2.St → Hp → Prop) (h0 : Pv 0 σ H) (hs : ∀ i σ H, i < n → Pv i σ H → g (.int (lo + i)) σ H fun σ2 H2 => tb { D with nx := Pv (i + 1), ct := Pv (i + 1), bk := D.nx } σ2 H2) (hd : ∀ σ H, Pv n σ H → D.nx σ H) : ForW (Itr lo n) g tb D σ H := for_range Pv h0 hs hd
theorem forW_list {xs : List V} (Pv : Nat → L2.St → Hp → Prop) (h0 : Pv 0 σ H) (hl : ∀ i σ H, i ≤ xs.length → Pv i σ H → SqL K H a xs) (hs : ∀ i x σ H, xs[i]? = some x → Pv i σ H → g x σ H fun σ2 H2 => tb { D with nx := Pv (i + 1), ct := Pv (i + 1), bk := D.nx } σ2 H2)
    (hd : ∀ σ H, Pv xs.length σ H → D.nx σ H) : ForW (Itl K a) g tb D σ H := for_list (xs := xs) Pv h0 hl hs hd
end
theorem x_yes {σ : L2.St} {H : Hp} {Q : Bool → Hp → Prop} : tYes σ H Q = Q true H := rfl
end G
namespace G
open PySem PySem.Spec PySem.Calls PyProof.Rows L2
/-! ### more shapes of loops, of targets -/
section
variable {σ : L2.St} {H : Hp} {Q : VK} {D : Ends} {g : TG} {tb : TS} {tl : TE} {ta : TA} {R : It → Hp → Prop} {K : PySem.W.Frag} {a : Addr}
theorem x_itup : iTup K tl σ H R = tl σ H fun x H1 => ∃ a, x = .ref a ∧ (∃ xs, SqT K H1 a xs) ∧ R (Itt K a) H1 := rfl
theorem x_rng3 : iRng3 ta σ H R = ta σ H fun vs H1 => ∃ (i j c : Int) (n : Nat), vs = [.int i, .int j, .int c] ∧ RgC i j c n ∧ R (Itc i c n) H1 := rfl
theorem x_three {x y z : Int} {P : Int → Int → Int → Nat → Prop} : (∃ (i j c : Int) (n : Nat), [V.int x, V.int y, V.int z] = [.int i, .int j, .int c] ∧ P i j c n) = ∃ n, P x y z n :=
  propext ⟨fun ⟨_, _, _, n, e, q⟩ => by cases e; exact ⟨n, q⟩, fun ⟨n, q⟩ => ⟨x, y, z, n, rfl, q⟩⟩
theorem x_lstg {ts : TGs} {n : Nat} {v : V} {N : L2.St → Hp → Prop} : gLst K n ts v σ H N = ∃ a xs, v = .ref a ∧ SqL K H a xs ∧ xs.length = n ∧ ts xs σ H N := rfl
theorem x_adrS {β : Type} {P : Addr → β → Prop} : (∃ b xs, V.ref a = V.ref b ∧ P b xs) = ∃ xs, P a xs := propext ⟨fun ⟨_, xs, e, q⟩ => by cases e; exact ⟨xs, q⟩, fun ⟨xs, q⟩ => ⟨a, xs, rfl, q⟩⟩
theorem forW_tup {xs : List V} (Pv : Nat → L2.St → Hp → Prop) (h0 : Pv 0 σ H) (hl : ∀ i σ H, i ≤ xs.length → Pv i σ H → SqT K H a xs) (hs : ∀ i x σ H, xs[i]? = some x → Pv i σ H → g x σ H fun σ2 H2 => tb { D with nx := Pv (i + 1), ct := Pv (i + 1), bk := D.nx } σ2 H2)
    (hd : ∀ σ H, Pv xs.length σ H → D.nx σ H) : ForW (Itt K a) g tb D σ H := for_tup (xs := xs) Pv h0 hl hs hd
theorem forW_step {lo c : Int} {n : Nat} (Pv : Nat → L2.St → Hp → Prop) (h0 : Pv 0 σ H) (hs : ∀ i σ H, i < n → Pv i σ H → g (.int (lo + (i : Nat) * c)) σ H fun σ2 H2 => tb { D with nx := Pv (i + 1), ct := Pv (i + 1), bk := D.nx } σ2 H2)
    (hd : ∀ σ H, Pv n σ H → D.nx σ H) : ForW (Itc lo c n) g tb D σ H := for_rangeC Pv h0 hs hd
end
end G
namespace G
open PySem PySem.Spec PySem.Calls PyProof.Rows L2 He
/-! ### is True, in, sorted, all -/
section
variable {X : Cx} {K : PySem.W.Frag}
def gIsB : R2 := fun x y H Q => ∃ b, y = .bl b ∧ Q (.bl (decide (x = .bl b))) H
def gNotB : R2 := fun x y H Q => ∃ b, y = .bl b ∧ Q (.bl (!decide (x = .bl b))) H
theorem relV_bl {x : V} {b : Bool} (r : RelV x (.bool b)) : x = .bl b := by
  cases x with
  | bl c => cases r; rfl
  | int i => obtain ⟨t, e⟩ := r; cases e
  | str i => obtain ⟨t, e⟩ := r; cases e
  | byt i => obtain ⟨t, e⟩ := r; cases e
  | flt i => obtain ⟨t, e⟩ := r; cases e
  | non => cases r
  | ref a => cases r
  | ty n => cases r
theorem relV_plain {x : V} {v : Value} {b : Bool} (r : RelV x v) : plainIs v (.bool b) = true := by
  cases x with
  | bl c => cases r; rfl
  | int i => obtain ⟨t, e⟩ := r; subst e; rfl
  | str i => obtain ⟨t, e⟩ := r; subst e; rfl
  | byt i => obtain ⟨t, e⟩ := r; subst e; rfl
  | flt i => obtain ⟨t, e⟩ := r; subst e; rfl
  | non => cases r; rfl
  | ref a => cases r; rfl
  | ty n => cases r; rfl
theorem op_gIsB : OpR X (compareOp .Is) gIsB := by
  intro pins s σ H x y v u Q I rx ry h
  obtain ⟨b, rfl, q⟩ := h
  cases (show u = Value.bool b from ry)
  by_cases e : v = .bool b
  · subst e
    have ex := relV_bl rx
    exact wpAny_is_self rfl ⟨.bl true, H, I, rfl, by rw [decide_eq_true ex] at q; exact q⟩
  · have ex : ¬ x = .bl b := fun z => e (by subst z; exact rx)
    exact wpAny_is_other (relV_plain rx) e ⟨.bl false, H, I, rfl, by rw [decide_eq_false ex] at q; exact q⟩
theorem op_gNotB : OpR X (compareOp .IsNot) gNotB := by
  intro pins s σ H x y v u Q I rx ry h
  obtain ⟨b, rfl, q⟩ := h
  cases (show u = Value.bool b from ry)
  by_cases e : v = .bool b
  · subst e
    have ex := relV_bl rx
    exact wpAny_isNot_self rfl ⟨.bl false, H, I, rfl, by rw [decide_eq_true ex] at q; exact q⟩
  · have ex : ¬ x = .bl b := fun z => e (by subst z; exact rx)
    exact wpAny_isNot_other (relV_plain rx) e ⟨.bl true, H, I, rfl, by rw [decide_eq_false ex] at q; exact q⟩
theorem op_inK (hK : X.K = K) : OpR X (compareOp .In) (rIn K false) := hK ▸ op_in_seq
theorem op_ninK (hK : X.K = K) : OpR X (compareOp .NotIn) (rIn K true) := hK ▸ op_notIn_seq
theorem call_sortedK (hK : X.K = K) : CallR X (.builtin "sorted") (rSortedI K) := hK ▸ cr_sortedI
theorem call_allK (hK : X.K = K) (hc : X.calm = true) : CallR X (.builtin "all") (rAll K) := hK ▸ cr_all hc
theorem call_anyK (hK : X.K = K) (hc : X.calm = true) : CallR X (.builtin "any") (rAny K) := hK ▸ cr_any hc
end
section
variable {σ : L2.St} {H : Hp} {Q : VK} {x : V} {b : Bool}
theorem r_isB : gIsB x (.bl b) H Q = Q (.bl (decide (x = .bl b))) H := propext ⟨fun ⟨_, e, q⟩ => by cases e; exact q, fun q => ⟨b, rfl, q⟩⟩
theorem r_notB : gNotB x (.bl b) H Q = Q (.bl (!decide (x = .bl b))) H := propext ⟨fun ⟨_, e, q⟩ => by cases e; exact q, fun q => ⟨b, rfl, q⟩⟩
theorem x_dpop2 {td ty tx : TE} : tDPop2 td ty tx σ H Q = td σ H fun x H1 => ∃ a, x = .ref a ∧ IsD H1 a ∧ ty σ H1 fun y H2 => tx σ H2 fun z H3 => ∃ kvs k, H3 a = some (.dK kvs) ∧ y = kV k ∧
  (∀ v, valV kvs k = some v → Q v (upd H3 a (.dK (dropK kvs k)))) ∧ (valV kvs k = none → Q z H3) := rfl
theorem r_isi {v : V} {T t : String} (e : tyOf v H = some t) (q : Q (.bl (isB t T)) H) (hT : T ∈ (["int", "bool", "str", "list", "tuple", "dict"] : List String) := by decide) : gIsi [v, .ty T] H Q := ⟨hT, t, e, q⟩
theorem r_isiL {a : Addr} {xs : List V} (h : H a = some (.lst xs)) (q : Q (.bl true) H) : gIsi [.ref a, .ty "list"] H Q := r_isi (t := "list") (by show tyO (H a) = _; rw [h]; rfl) q
theorem r_isiT {a : Addr} {xs : List V} (h : H a = some (.tup xs)) (q : Q (.bl true) H) : gIsi [.ref a, .ty "tuple"] H Q := r_isi (t := "tuple") (by show tyO (H a) = _; rw [h]; rfl) q
theorem r_isiII {n : Int} : gIsi [.int n, .ty "int"] H Q = Q (.bl true) H := propext ⟨fun ⟨_, t, e, q⟩ => by cases e; exact q, fun q => ⟨by decide, _, rfl, q⟩⟩
theorem r_isiBB : gIsi [.bl b, .ty "bool"] H Q = Q (.bl true) H := propext ⟨fun ⟨_, t, e, q⟩ => by cases e; exact q, fun q => ⟨by decide, _, rfl, q⟩⟩
theorem r_isiIB {n : Int} : gIsi [.int n, .ty "bool"] H Q = Q (.bl false) H := propext ⟨fun ⟨_, t, e, q⟩ => by cases e; exact q, fun q => ⟨by decide, _, rfl, q⟩⟩
theorem r_isiSS {z : Str} : gIsi [.str z, .ty "str"] H Q = Q (.bl true) H := propext ⟨fun ⟨_, t, e, q⟩ => by cases e; exact q, fun q => ⟨by decide, _, rfl, q⟩⟩
theorem r_neNS {K : PySem.W.Frag} {z : Str} : gNe K .non (.str z) H Q = Q (.bl true) H := rfl
theorem r_neSN {K : PySem.W.Frag} {z : Str} : gNe K (.str z) .non H Q = Q (.bl true) H := rfl
theorem r_neNN {K : PySem.W.Frag} : gNe K .non .non H Q = Q (.bl false) H := rfl
theorem r_eqNS {K : PySem.W.Frag} {z : Str} : gEq K .non (.str z) H Q = Q (.bl false) H := rfl
theorem r_eqSN {K : PySem.W.Frag} {z : Str} : gEq K (.str z) .non H Q = Q (.bl false) H := rfl
theorem r_eqNN {K : PySem.W.Frag} : gEq K .non .non H Q = Q (.bl true) H := rfl
theorem r_eqIS {K : PySem.W.Frag} {n : Int} {z : Str} : gEq K (.int n) (.str z) H Q = Q (.bl false) H := rfl
theorem r_neIS {K : PySem.W.Frag} {n : Int} {z : Str} : gNe K (.int n) (.str z) H Q = Q (.bl true) H := rfl
theorem r_neSI {K : PySem.W.Frag} {n : Int} {z : Str} : gNe K (.str z) (.int n) H Q = Q (.bl true) H := rfl
theorem r_neBS {K : PySem.W.Frag} {z : Str} : gNe K (.bl b) (.str z) H Q = Q (.bl true) H := rfl
theorem r_eqBB {K : PySem.W.Frag} {c : Bool} : gEq K (.bl b) (.bl c) H Q = Q (.bl (b == c)) H := rfl
theorem r_neBB {K : PySem.W.Frag} {c : Bool} : gNe K (.bl b) (.bl c) H Q = Q (.bl (!(b == c))) H := rfl
theorem r_ixL {K : PySem.W.Frag} {a : Addr} {xs : List V} {i : Nat} {v : V} (h : H a = some (.lst xs)) (e : xs[i]? = some v) (q : Q v H) : rIx K (.ref a) (.int (i : Int)) H Q := .inl ⟨_, _, _, _, rfl, rfl, .of h, by
  have hl := (List.getElem?_eq_some_iff.mp e).1
  unfold atI ixN
  rw [if_pos (by omega), if_pos (by omega), Int.toNat_natCast]
  exact e, q⟩
end
/-! ### isinstance(e, (C, D, ..)) of a caught error -/
def tIsQ (K : PySem.W.Frag) (x : V) (cs : List V) (H : Hp) (Q : VK) : Prop := cs.length ≤ sizeLine ∧ ∃ a D us b, x = .ref a ∧ H a = some (ExA (.ref D) a) ∧ ExcC K D ∧ Paired ClsV cs us ∧ PySem.W.kitAny K (.ref D) us = some b ∧ Q (.bl b) H
theorem x_isT {K : PySem.W.Frag} {σ : L2.St} {H : Hp} {Q : VK} {ta : TE} {tc : TA} : tIsT K ta tc σ H Q = ta σ H fun x H1 => tc σ H1 fun cs H2 => tIsQ K x cs H2 Q := rfl
inductive NamesK (K : PySem.W.Frag) : List V → List Str → Prop where
  | nil : NamesK K [] []
  | cons (c : Str) {cs : List V} {ns : List Str} (t : NamesK K cs ns) : NamesK K (.ref (ga K c) :: cs) (c :: ns)
theorem NamesK.len {K : PySem.W.Frag} {cs : List V} {ns : List Str} (h : NamesK K cs ns) : cs.length = ns.length := by
  induction h with
  | nil => rfl
  | cons c t ih => exact congrArg (· + 1) ih
theorem NamesK.pair {K : PySem.W.Frag} {cs : List V} {ns : List Str} (h : NamesK K cs ns) : Paired ClsV cs (ns.map fun c => Value.ref (ga K c)) := by
  induction h with
  | nil => exact .nil
  | cons c t ih => exact .cons (.own _) ih
theorem Told.anyOf {fa : List Fa} {fn : List DefD} {xl : XL} {K : PySem.W.Frag} {mg : Str → Option Value} (T : Told fa fn xl K mg) {d : Str} (hd : d ∈ xl.ex) : ∀ ns : List Str, (∀ c ∈ ns, c ∈ xl.ex) → PySem.W.kitAny K (.ref (ga K d)) (ns.map fun c => Value.ref (ga K c)) = some (ns.any (under d))
  | [], _ => rfl
  | c :: r, h => by
    show (match PySem.W.kitOne K (.ref (ga K d)) (.ref (ga K c)) with
      | some true => some true
      | some false => PySem.W.kitAny K (.ref (ga K d)) (r.map fun c => Value.ref (ga K c))
      | none => none) = some (under d c || r.any (under d))
    rw [((T.err hd).2.2 c (h c (List.mem_cons_self))).1]
    cases under d c with
    | true => rfl
    | false => exact T.anyOf hd r fun c hc => h c (List.mem_cons_of_mem _ hc)
theorem Told.isA {fa : List Fa} {fn : List DefD} {xl : XL} {K : PySem.W.Frag} {mg : Str → Option Value} (T : Told fa fn xl K mg) {d : Str} {a : Addr} {H : Hp} {Q : VK} {cs : List V} {ns : List Str} {b : Bool} (ha : H a = some (ExA (.ref (ga K d)) a)) (n : NamesK K cs ns)
    (hd : d ∈ xl.ex) (hc : (ns.all fun c => decide (c ∈ xl.ex)) = true) (hl : ns.length ≤ 1000) (e : ns.any (under d) = b) (q : Q (.bl b) H) : tIsQ K (.ref a) cs H Q :=
  ⟨by rw [n.len, sizeLine_eq]; omega, a, _, _, b, rfl, ha, (T.err hd).1, n.pair, (T.anyOf hd ns fun c h => of_decide_eq_true (List.all_eq_true.mp hc c h)).trans (congrArg some e), q⟩
end G
namespace G
open PySem PySem.Spec PySem.Calls PyProof.Rows L2 He
/-! ### == of data of some depth -/
def ShK (k : Nat) (d : PyData) : Prop := d.canLay0 = true ∧ d.depth ≤ k
theorem ShK.up {k n : Nat} {d : PyData} (h : ShK k d) (e : k ≤ n) : ShK n d := ⟨h.1, Nat.le_trans h.2 e⟩
theorem ShK.all {k : Nat} : ∀ {ds : List PyData}, (∀ z ∈ ds, ShK k z) → PyData.canLayAll0 ds = true ∧ PyData.depthAll ds ≤ k
  | [], _ => ⟨by simp [PyData.canLayAll0], by simp [PyData.depthAll]⟩
  | z :: zs, h => by
    have h1 := ShK.all (ds := zs) fun y hy => h y (List.mem_cons_of_mem _ hy)
    have h2 := h z (List.mem_cons_self)
    refine ⟨by simp [PyData.canLayAll0, h2.1, h1.1], ?_⟩
    have a := h2.2
    have b := h1.2
    simp only [PyData.depthAll]
    omega
theorem ShK.lst {k : Nat} {ds : List PyData} (h : ∀ z ∈ ds, ShK k z) : ShK (k + 1) (.list ds) := by
  have a := ShK.all h
  refine ⟨by simp [PyData.canLay0, a.1], ?_⟩
  have b := a.2
  simp only [PyData.depth]
  omega
theorem ShK.tup {k : Nat} {ds : List PyData} (h : ∀ z ∈ ds, ShK k z) : ShK (k + 1) (.tuple ds) := by
  have a := ShK.all h
  refine ⟨by simp [PyData.canLay0, a.1], ?_⟩
  have b := a.2
  simp only [PyData.depth]
  omega
theorem ShK.ok {k : Nat} {d : PyData} (h : ShK k d) (e : k ≤ 64) : SeqAt.shaped d = true := by
  show (d.canLay0 && decide (d.depth ≤ 64)) = true
  rw [h.1, decide_eq_true (Nat.le_trans h.2 e)]
  rfl
/-- flat things as data -/
def toD : V → PyData
  | .bl b => .bool b
  | .int i => .int i
  | _ => .none
def flatI : V → Bool
  | .non => true
  | .bl _ => true
  | .int _ => true
  | _ => false
theorem toD_sh {v : V} : ShK 0 (toD v) := by cases v <;> exact ⟨by simp [toD, PyData.canLay0], by simp [toD, PyData.depth]⟩
theorem toD_dp {K : PySem.W.Frag} {H : Hp} {v : V} (h : flatI v = true) : Dp K H v (toD v) := by
  cases v <;> first | (cases h; done) | skip
  · exact .non
  · exact .bl _
  · exact .int _
theorem toDs_dp {K : PySem.W.Frag} {H : Hp} : ∀ {xs : List V}, (∀ x ∈ xs, flatI x = true) → DpAll K H xs (xs.map toD)
  | [], _ => .nil
  | _ :: _, h => .cons (toD_dp (h _ (List.mem_cons_self))) (toDs_dp fun y hy => h y (List.mem_cons_of_mem _ hy))
theorem toDs_sh {xs : List V} : ∀ z ∈ xs.map toD, ShK 0 z := fun z h => by
  obtain ⟨v, -, e⟩ := List.mem_map.mp h
  subst e
  exact toD_sh
/-- lists of flat things; of tuples of flat things -/
theorem dp_flat {K : PySem.W.Frag} {H : Hp} {a : Addr} {xs : List V} (h : H a = some (.lst xs)) (f : ∀ x ∈ xs, flatI x = true) : Dp K H (.ref a) (.list (xs.map toD)) := .lst (.of h) (toDs_dp f)
theorem sh_flat {xs : List V} : SeqAt.shaped (.list (xs.map toD)) = true := (ShK.lst toDs_sh).ok (by decide)
inductive TupAll (H : Hp) : List V → List (List V) → Prop where
  | nil : TupAll H [] []
  | cons {tp : Addr} {xs : List V} {rs : List V} {yss : List (List V)} (h : H tp = some (.tup xs)) (f : ∀ x ∈ xs, flatI x = true) (t : TupAll H rs yss) : TupAll H (.ref tp :: rs) (xs :: yss)
def tupD (yss : List (List V)) : PyData := .list (yss.map fun xs => .tuple (xs.map toD))
theorem TupAll.dp {K : PySem.W.Frag} {H : Hp} : ∀ {rs : List V} {yss : List (List V)}, TupAll H rs yss → DpAll K H rs (yss.map fun xs => .tuple (xs.map toD))
  | _, _, .nil => .nil
  | _, _, .cons h f t => .cons (.tup (.inl (.inl h)) (toDs_dp f)) t.dp
theorem TupAll.same {H H' : Hp} {rs : List V} {yss : List (List V)} (h : TupAll H rs yss) (s : Same H H') : TupAll H' rs yss := by
  induction h with
  | nil => exact .nil
  | cons h f t ih => exact .cons (s _ _ h) f ih
theorem TupAll.snoc {H : Hp} {rs : List V} {yss : List (List V)} {tp : Addr} {xs : List V} (h : TupAll H rs yss) (e : H tp = some (.tup xs)) (f : ∀ x ∈ xs, flatI x = true) : TupAll H (rs ++ [.ref tp]) (yss ++ [xs]) := by
  induction h with
  | nil => exact .cons e f .nil
  | cons h f' t ih => exact .cons h f' ih
theorem TupAll.put {H : Hp} {rs : List V} {yss : List (List V)} {D : Addr} {o o' : HO} (h : TupAll H rs yss) (e : H D = some o) (n : ∀ xs, o ≠ .tup xs) : TupAll (upd H D o') rs yss := by
  induction h with
  | nil => exact .nil
  | cons h f t ih => exact .cons (by rw [upd_ne (ne_of h e fun z => n _ z.symm)]; exact h) f ih
theorem TupAll.len {H : Hp} {rs : List V} {yss : List (List V)} (h : TupAll H rs yss) : rs.length = yss.length := by
  induction h with
  | nil => rfl
  | cons h f t ih => exact congrArg (· + 1) ih
theorem TupAll.mem {H : Hp} {rs : List V} {yss : List (List V)} (h : TupAll H rs yss) : ∀ r ∈ rs, ∃ tp xs, r = .ref tp ∧ H tp = some (.tup xs) ∧ xs ∈ yss := by
  induction h with
  | nil => exact fun r h => (List.not_mem_nil h).elim
  | cons h f t ih =>
    intro r hr
    rcases List.mem_cons.mp hr with rfl | hr
    · exact ⟨_, _, rfl, h, List.mem_cons_self⟩
    · obtain ⟨tp, xs, e, h', m⟩ := ih r hr
      exact ⟨tp, xs, e, h', List.mem_cons_of_mem _ m⟩
theorem dp_tups {K : PySem.W.Frag} {H : Hp} {a : Addr} {rs : List V} {yss : List (List V)} (h : H a = some (.lst rs)) (t : TupAll H rs yss) : Dp K H (.ref a) (tupD yss) := .lst (.of h) t.dp
theorem sh_tups {yss : List (List V)} : SeqAt.shaped (tupD yss) = true := by
  refine (ShK.lst (k := 1) fun z h => ?_).ok (by decide)
  obtain ⟨xs, -, e⟩ := List.mem_map.mp h
  subst e
  exact ShK.tup toDs_sh
theorem shaped_refl {d : PyData} (s : SeqAt.shaped d = true) : PyData.eqv d d = true := PySem.SeqAt.eqv_refl d (SeqAt.canLay_of_shaped s)
theorem r_eqSame {K : PySem.W.Frag} {H : Hp} {Q : VK} {a b : Addr} {d : PyData} (h1 : Dp K H (.ref a) d) (h2 : Dp K H (.ref b) d) (s : SeqAt.shaped d = true) (q : Q (.bl true) H) : gEq K (.ref a) (.ref b) H Q := ⟨d, d, h1, h2, s, s, by rw [shaped_refl s]; exact q⟩
theorem r_neSame {K : PySem.W.Frag} {H : Hp} {Q : VK} {a b : Addr} {d : PyData} (h1 : Dp K H (.ref a) d) (h2 : Dp K H (.ref b) d) (s : SeqAt.shaped d = true) (q : Q (.bl false) H) : gNe K (.ref a) (.ref b) H Q := ⟨d, d, h1, h2, s, s, by rw [shaped_refl s]; exact q⟩
theorem getD_range {ts : List V} {d : V} : (List.range ts.length).map (fun i => ts.getD i d) = ts := by
  refine List.ext_getElem (by rw [List.length_map, List.length_range]) fun i h1 h2 => ?_
  rw [List.getElem_map, List.getElem_range, List.getD_eq_getElem?_getD, List.getElem?_eq_getElem h2]
  rfl
theorem getD_at {α : Type} {ts : List α} {d : α} {i : Nat} (h : i < ts.length) : ts[i]? = some (ts.getD i d) := by
  rw [List.getElem?_eq_getElem h, List.getD_eq_getElem?_getD, List.getElem?_eq_getElem h]
  rfl
theorem r_ixT {K : PySem.W.Frag} {H : Hp} {Q : VK} {a : Addr} {xs : List V} {i : Nat} {v : V} (h : H a = some (.tup xs)) (e : xs[i]? = some v) (q : Q v H) : rIx K (.ref a) (.int (i : Int)) H Q := .inr (.inl ⟨_, _, _, _, rfl, rfl, .inl (.inl h), by
  have hl := (List.getElem?_eq_some_iff.mp e).1
  unfold atI ixN
  rw [if_pos (by omega), if_pos (by omega), Int.toNat_natCast]
  exact e, q⟩)
theorem op_catTK {X : Cx} {K : PySem.W.Frag} (hK : X.K = K) : OpR X (binaryOp .Add) (rCatT K) := hK ▸ op_catT
theorem r_cat {K : PySem.W.Frag} {H : Hp} {Q : VK} {a b : Addr} {xs ys : List V} (h1 : H a = some (.tup xs)) (h2 : H b = some (.tup ys)) (nx : xs ≠ []) (ny : ys ≠ []) (hl : xs.length + ys.length ≤ sizeLine) (q : ∀ p, H p = none → Q (.ref p) (upd H p (.tup (xs ++ ys)))) : rCatT K (.ref a) (.ref b) H Q :=
  ⟨a, b, xs, ys, rfl, rfl, .inl (.inl h1), .inl (.inl h2), nx, hl, fun e => absurd e ny, fun _ => q⟩
/-- addresses that are in use -/
def Live (H : Hp) (L : List Addr) : Prop := L.Nodup ∧ ∀ c ∈ L, ∃ o, H c = some o
theorem Live.nil {H : Hp} : Live H [] := ⟨List.nodup_nil, fun c h => (List.not_mem_nil h).elim⟩
theorem Live.same {H H' : Hp} {L : List Addr} (h : Live H L) (s : Same H H') : Live H' L := ⟨h.1, fun c m => let ⟨o, e⟩ := h.2 c m; ⟨o, s _ _ e⟩⟩
theorem Live.cons {H H' : Hp} {L : List Addr} {x : Addr} {o : HO} (h : Live H L) (s : Same H H') (e : H x = none) (e' : H' x = some o) : Live H' (x :: L) := by
  refine ⟨List.nodup_cons.mpr ⟨fun m => ?_, h.1⟩, fun c m => ?_⟩
  · obtain ⟨o, g⟩ := h.2 x m
    rw [e] at g
    cases g
  · rcases List.mem_cons.mp m with rfl | m
    · exact ⟨_, e'⟩
    · obtain ⟨o, g⟩ := h.2 c m
      exact ⟨o, s _ _ g⟩
/-! ### enumerate -/
theorem x_enum {σ : L2.St} {H : Hp} {ta : TA} {R : It → Hp → Prop} {K : PySem.W.Frag} : iEnum K ta σ H R = ta σ H fun vs H1 => ∃ a xs, vs = [.ref a] ∧ SqL K H1 a xs ∧ R (Ite K a) H1 := rfl
end G
namespace G
open PySem PySem.Spec PySem.Calls PyProof.Rows L2 He
/-! ### while -/
def WhB (W : Nat → L2.St → Hp → Prop) (k : Nat) (tb : TS) (D : Ends) (σ : L2.St) (H : Hp) : Prop :=
  ∃ N : L2.St → Hp → Prop, (∀ σ' H', N σ' H' → ∃ m', m' < k ∧ W m' σ' H') ∧ tb { D with nx := N, ct := N, bk := D.nx } σ H
theorem whW {c : TT} {tb : TS} {D : Ends} {σ : L2.St} {H : Hp} (W : Nat → L2.St → Hp → Prop) (h0 : ∃ k, W k σ H) (hs : ∀ k σ H, W k σ H → c σ H fun b H1 => if b = true then WhB W k tb D σ H1 else D.nx σ H1) : tWhile c tb D σ H :=
  ⟨W, h0, hs⟩
theorem whB {W : Nat → L2.St → Hp → Prop} {k : Nat} {tb : TS} {D : Ends} {σ : L2.St} {H : Hp} (h : tb { D with nx := fun σ' H' => ∃ m', m' < k ∧ W m' σ' H', ct := fun σ' H' => ∃ m', m' < k ∧ W m' σ' H', bk := D.nx } σ H) : WhB W k tb D σ H :=
  ⟨_, fun _ _ q => q, h⟩
end G
namespace G
open PySem PySem.Spec PySem.Calls PyProof.Rows L2 He
theorem call_sumK {X : Cx} {K : PySem.W.Frag} (hK : X.K = K) (hc : X.calm = true) : CallR X (.builtin "sum") (rSum K) := hK ▸ cr_sum hc
theorem r_sumL {K : PySem.W.Frag} {H : Hp} {Q : VK} {a : Addr} {ns : List Int} (h : H a = some (.lst (ns.map V.int))) (q : Q (.int ns.sum) H) : rSum K [.ref a] H Q := ⟨a, ns, rfl, .of h, q⟩
/-- all of a list of truths is true -/
theorem r_allT {K : PySem.W.Frag} {H : Hp} {Q : VK} {a : Addr} {n : Nat} (h : H a = some (.lst (List.replicate n (.bl true)))) (q : Q (.bl true) H) : rAll K [.ref a] H Q := by
  refine ⟨a, List.replicate n true, rfl, .of (by rw [List.map_replicate]; exact h), ?_⟩
  rw [show (List.replicate n true).all id = true from List.all_eq_true.mpr fun b hb => (List.mem_replicate.mp hb).2]
  exact q
/-- [True for .. in xs] -/
theorem lc_trueL {σ : L2.St} {vs : List Nat} {H1 : Hp} {D : Addr} {Qd : Hp → Prop} {te : TE} {k : Nat} {K : PySem.W.Frag} {a : Addr} {xs : List V} (hw : ∀ v, wipe ((wipe σ vs).set k (some v)) vs = wipe σ vs) (hl : ∀ acc, SqL K (upd H1 D (.lst acc)) a xs) (hn : xs.length ≤ sizeLine)
    (he : ∀ (i : Nat) (x : V), xs[i]? = some x → ∀ acc (Q : VK), Q (.bl true) (upd H1 D (.lst acc)) → te ((wipe σ vs).set k (some x)) (upd H1 D (.lst acc)) Q) (hd : Qd (upd H1 D (.lst (List.replicate xs.length (.bl true))))) :
    ∃ W : Nat → Nat → Hp → Prop, (∃ m, W 0 m (upd H1 D (.lst []))) ∧ ∀ i m H, W i m H →
      ((Itl K a).stop i H ∧ Qd H) ∨ ((Itl K a).go i H ∧ ∃ Nx : Hp → Prop, (∀ H', Nx H' → ∃ m', m' < m ∧ W (i + 1) m' H') ∧ ∀ x H', (Itl K a).yld i H x H' → gName k x (wipe σ vs) H' fun σ2 H2 => wipe σ2 vs = wipe σ vs ∧ tYes σ2 H2 fun b H3 =>
        if b = true then te σ2 H3 fun y H4 => ∃ acc, H4 D = some (.lst acc) ∧ acc.length < sizeLine ∧ Nx (upd H4 D (.lst (acc ++ [y]))) else Nx H3) :=
  lc_mapL (ys := List.replicate xs.length (.bl true)) hw hl hn (List.length_replicate) (fun i x y hx hy acc Q q => by
    have e := (List.mem_replicate.mp (List.mem_of_getElem? hy)).2
    subst e
    exact he i x hx acc Q q) hd
/-- whole numbers in a list -/
theorem ints_mem {ns : List Int} {i : Nat} {x : V} (h : (ns.map V.int)[i]? = some x) : ∃ n, x = .int n ∧ n ∈ ns := by
  obtain ⟨n, m, e⟩ := List.mem_map.mp (List.mem_of_getElem? h)
  exact ⟨n, e.symm, m⟩
theorem ints_flat {ns : List Int} : ∀ x ∈ ns.map V.int, flatI x = true := fun x h => by
  obtain ⟨i, -, e⟩ := List.mem_map.mp h
  subst e
  rfl
theorem dp_ints {K : PySem.W.Frag} {H : Hp} {a : Addr} {ns : List Int} (h : H a = some (.lst (ns.map V.int))) : Dp K H (.ref a) (.list ((ns.map V.int).map toD)) := dp_flat h ints_flat
/-- two lists of the same whole numbers -/
theorem r_eqInts {K : PySem.W.Frag} {H : Hp} {Q : VK} {a b : Addr} {ns : List Int} (h1 : H a = some (.lst (ns.map V.int))) (h2 : H b = some (.lst (ns.map V.int))) (q : Q (.bl true) H) : gEq K (.ref a) (.ref b) H Q := r_eqSame (dp_ints h1) (dp_ints h2) sh_flat q
theorem r_neInts {K : PySem.W.Frag} {H : Hp} {Q : VK} {a b : Addr} {ns : List Int} (h1 : H a = some (.lst (ns.map V.int))) (h2 : H b = some (.lst (ns.map V.int))) (q : Q (.bl false) H) : gNe K (.ref a) (.ref b) H Q := r_neSame (dp_ints h1) (dp_ints h2) sh_flat q
/-- [text, thing]: what law's tries tell -/
inductive PlD : V → PyData → Prop where
  | non : PlD .non .none
  | bl (b : Bool) : PlD (.bl b) (.bool b)
  | int (i : Int) : PlD (.int i) (.int i)
  | str (z : Str) (h : PyData.strOk z = true) : PlD (.str z) (.str z)
theorem PlD.dp {K : PySem.W.Frag} {H : Hp} {v : V} {d : PyData} (h : PlD v d) : Dp K H v d := by
  cases h with
  | non => exact .non
  | bl b => exact .bl b
  | int i => exact .int i
  | str z h => exact .str z
theorem PlD.sh {v : V} {d : PyData} (h : PlD v d) : ShK 0 d := by
  cases h with
  | str z h => exact ⟨by simp only [PyData.canLay0]; exact h, by simp [PyData.depth]⟩
  | _ => exact ⟨by simp [PyData.canLay0], by simp [PyData.depth]⟩
inductive PlAll : List V → List PyData → Prop where
  | nil : PlAll [] []
  | cons {v : V} {d : PyData} {vs : List V} {ds : List PyData} (h : PlD v d) (t : PlAll vs ds) : PlAll (v :: vs) (d :: ds)
theorem PlAll.dp {K : PySem.W.Frag} {H : Hp} {vs : List V} {ds : List PyData} (h : PlAll vs ds) : DpAll K H vs ds := by
  induction h with
  | nil => exact .nil
  | cons h t ih => exact .cons h.dp ih
theorem PlAll.sh {vs : List V} {ds : List PyData} (h : PlAll vs ds) : ∀ z ∈ ds, ShK 0 z := by
  induction h with
  | nil => exact fun z h => (List.not_mem_nil h).elim
  | cons h t ih =>
    intro z m
    rcases List.mem_cons.mp m with rfl | m
    · exact h.sh
    · exact ih z m
/-- == of lists of plain things -/
theorem r_eqPl {K : PySem.W.Frag} {H : Hp} {Q : VK} {a b : Addr} {xs ys : List V} {ds es : List PyData} (h1 : H a = some (.lst xs)) (h2 : H b = some (.lst ys)) (p1 : PlAll xs ds) (p2 : PlAll ys es) (q : Q (.bl (PyData.eqv (.list ds) (.list es))) H) : gEq K (.ref a) (.ref b) H Q :=
  ⟨_, _, .lst (.of h1) p1.dp, .lst (.of h2) p2.dp, (ShK.lst p1.sh).ok (by decide), (ShK.lst p2.sh).ok (by decide), q⟩
theorem r_nePl {K : PySem.W.Frag} {H : Hp} {Q : VK} {a b : Addr} {xs ys : List V} {ds es : List PyData} (h1 : H a = some (.lst xs)) (h2 : H b = some (.lst ys)) (p1 : PlAll xs ds) (p2 : PlAll ys es) (q : Q (.bl (!PyData.eqv (.list ds) (.list es))) H) : gNe K (.ref a) (.ref b) H Q :=
  ⟨_, _, .lst (.of h1) p1.dp, .lst (.of h2) p2.dp, (ShK.lst p1.sh).ok (by decide), (ShK.lst p2.sh).ok (by decide), q⟩
theorem r_eqPlT {K : PySem.W.Frag} {H : Hp} {Q : VK} {a b : Addr} {xs : List V} {ds : List PyData} (h1 : H a = some (.lst xs)) (h2 : H b = some (.lst xs)) (p : PlAll xs ds) (q : Q (.bl true) H) : gEq K (.ref a) (.ref b) H Q :=
  r_eqSame (.lst (.of h1) p.dp) (.lst (.of h2) p.dp) ((ShK.lst p.sh).ok (by decide)) q
theorem r_nePlT {K : PySem.W.Frag} {H : Hp} {Q : VK} {a b : Addr} {xs : List V} {ds : List PyData} (h1 : H a = some (.lst xs)) (h2 : H b = some (.lst xs)) (p : PlAll xs ds) (q : Q (.bl false) H) : gNe K (.ref a) (.ref b) H Q :=
  r_neSame (.lst (.of h1) p.dp) (.lst (.of h2) p.dp) ((ShK.lst p.sh).ok (by decide)) q
end G
namespace G
open PySem PySem.Spec PySem.Calls PyProof.Rows L2 He
/-! ### isinstance of an own class's instance; in a written tuple -/
theorem call_isiK {X : Cx} {K : PySem.W.Frag} (hK : X.K = K) : CallR X (.builtin "isinstance") (rIsi K) := hK ▸ call_isi
theorem r_isiIns {K : PySem.W.Frag} {H : Hp} {Q : VK} {a C dx : Addr} {fs : List (Str × V)} (h : H a = some (.ins C dx fs)) (c : Cls K C) (n : ClN K C) (q : Q (.bl false) H) : rIsi K [.ref a, .ty "str"] H Q :=
  ⟨_, _, _, _, _, rfl, .ty _, .base (TyOf.ins h c n.ha n.hn n.htk n.hm), n.no, q⟩
theorem r_isiOwn {K : PySem.W.Frag} {H : Hp} {Q : VK} {a C dx : Addr} {fs : List (Str × V)} (h : H a = some (.ins C dx fs)) (c : Cls K C) (n : ClN K C) (q : Q (.bl true) H) : rIsi K [.ref a, .ref C] H Q :=
  ⟨_, _, _, _, _, rfl, .own _, .base (TyOf.ins h c n.ha n.hn n.htk n.hm), (by show (if (Value.ref C == Value.ref C) = true then some true else _) = _; rw [if_pos (beq_self_eq_true _)]), q⟩
theorem r_isiPl {K : PySem.W.Frag} {H : Hp} {Q : VK} {x : V} {t n : String} (h : tyOf x H = some t) (hn : n ∈ (["int", "bool", "str", "list", "tuple", "dict"] : List String)) (q : Q (.bl (isB t n)) H) : rIsi K [x, .ty n] H Q :=
  ⟨_, _, _, _, _, rfl, .ty _, tyOf_ok h, kit_ty (isB_all t (tyOf_in h) _ hn), q⟩
/-- x in a written tuple: flat things; data -/
def rInG (K : PySem.W.Frag) (neg : Bool) : R2 := fun x y H Q => rIn K neg x y H Q ∨ ∃ d ds, Dp K H x d ∧ Dp K H y (.tuple ds) ∧ SeqAt.shaped d = true ∧ SeqAt.shaped (.tuple ds) = true ∧ Q (.bl (if neg then !ds.any fun z => PyData.eqv z d else ds.any fun z => PyData.eqv z d)) H
theorem op_inTG {X : Cx} {K : PySem.W.Frag} (hK : X.K = K) (hu : X.A.units + 65 < cLine) : OpR X (compareOp .In) (rInG K false) := by
  subst hK
  intro pins s σ H x y v u Q I rx ry h
  rcases h with h | ⟨d, ds, hd, he, sd, se, q⟩
  · exact op_in_seq pins s σ H x y v u Q I rx ry h
  obtain ⟨as, r1⟩ := Dp.reads I d x v hd rx
  obtain ⟨bs, r2⟩ := Dp.reads I (.tuple ds) y u he ry
  exact SeqAt.in_tuple_reads r2 r1 (SeqAt.canLay_of_shaped se) (SeqAt.canLay_of_shaped sd) (room_in_shaped sd hu) ⟨.bl _, H, I, rfl, q⟩
theorem op_ninTG {X : Cx} {K : PySem.W.Frag} (hK : X.K = K) (hu : X.A.units + 65 < cLine) : OpR X (compareOp .NotIn) (rInG K true) := by
  subst hK
  intro pins s σ H x y v u Q I rx ry h
  rcases h with h | ⟨d, ds, hd, he, sd, se, q⟩
  · exact op_notIn_seq pins s σ H x y v u Q I rx ry h
  obtain ⟨as, r1⟩ := Dp.reads I d x v hd rx
  obtain ⟨bs, r2⟩ := Dp.reads I (.tuple ds) y u he ry
  exact SeqAt.notIn_tuple_reads r2 r1 (SeqAt.canLay_of_shaped se) (SeqAt.canLay_of_shaped sd) (room_in_shaped sd hu) ⟨.bl _, H, I, rfl, q⟩
end G
namespace G
open PySem PySem.Spec PySem.Calls PyProof.Rows L2 He
theorem hu65 {k : Nat} {A : Around} (r : Room k A) : A.units + 65 < cLine := by have := r.un; omega
theorem hu65N {k : Nat} {A : Around} (r : RoomN k A) : A.units + 65 < cLine := by have := r.un; omega
end G
namespace G
open PySem PySem.Spec PySem.Calls PyProof.Rows L2 He
/-! ### two named except clauses -/
section
variable {X : Cx} {x x2 n : Str} {c c2 : Value} {i : Nat} {body suite suite2 : List Stmt} {b0 b2 : Stmt} {np np2 pos pos' pos2' : Pos} {tb : WX → TS} {ts ts2 : TS} {Wo : WX}
theorem ps_tryT2 (hs : X.stack = X.env :: X.outer) (hf : X.env.frame = some X.env.locals) (hex : X.ex = []) (hN : X.N.Nodup) (hi : X.N[i]? = some n) (hln : X.env.kindOf n = some .local) (hc : Names X x c) (hc2 : Names X x2 c2) (tk : Takes X Wo)
    (hb : ∀ (W : WX) (pn : List (Addr × Obj)) (xe : Value → Shared → Prop), Takes (X.tr pn xe) W → PassesOwn (model X.prog X.w) X.A X.env xe → PSs (X.tr pn xe) body (tb W))
    (hsu : ∀ (a : Addr) (pn : List (Addr × Obj)), PSs (X.suite a pn) (b0 :: suite) ts) (hsu2 : ∀ (a : Addr) (pn : List (Addr × Obj)), PSs (X.suite a pn) (b2 :: suite2) ts2) :
    PS X (.Try body [.ExceptHandler (some (.Name x np)) (some n) (b0 :: suite) pos', .ExceptHandler (some (.Name x2 np2)) (some n) (b2 :: suite2) pos2'] [] [] pos) (fun D σ H => tb (wTr X.K c i ts (wTr X.K c2 i ts2 Wo D) D) D σ H) := by
  refine ⟨fun pins s σ H D I h => ?_⟩
  have ok := I.ok
  have hfr : X.A.frames = some (X.env :: X.outer) := by rw [ok.frames, hs]
  have lo : Loc X.env.scope n := .inl hln
  let rest : List ExceptHandler := [.ExceptHandler (some (.Name x np)) (some n) (b0 :: suite) pos', .ExceptHandler (some (.Name x2 np2)) (some n) (b2 :: suite2) pos2']
  let M := model X.prog X.w
  let wish : Value → Shared → Prop := fun e u1 => wpAny M X.A (noteFrame e X.env) (fun _ u2 => wpAny M X.A (setFlight e none) (fun _ u3 => wpAny M X.A (handleBy e X.env rest) (SP X pins D) X.xe u3) X.xe u2) X.xe u1
  refine wpAny_Try_except (wpAny_mono ((hb (wTr X.K c i ts (wTr X.K c2 i ts2 Wo D) D) (X.pn ++ pins) wish (fun u s' air => ?_) PassesOwn.looking).run [] s σ H D (I.toTry _) h) (fun fl s1 hsp => ?_) (fun e s1 he => he))
  · obtain ⟨a, B, sg, pi', σ1, H1, cls, d, rfl, Jt, nb, up, sky, na, os, ag, b, e1, yes, no⟩ := air
    have J : Inv X pins σ1 H1 sg := Jt.ofTry ok
    have sky' : Sky B (X.env :: X.outer) a (Zc cls d) X.env.locals s'.heap := by rw [← hs]; exact sky
    show wpAny M X.A (noteFrame (.ref a) X.env) _ _ _
    refine Sky.land Zc.steady hfr hf sky' fun h3 fl3 up3 => ?_
    have u3 := up.trans up3
    have J3 : Inv X pins σ1 H1 { s' with heap := h3 } := J.landed nb fl3.1 u3 os ag
    obtain ⟨o3, f3, g3, z3, d3⟩ := fl3.there
    have nfr : a ∉ frs (X.env :: X.outer) := fun hm => by
      obtain ⟨-, o', g', nf⟩ := fl3.2.2.1.mem hm
      rw [g3] at g'
      cases g'
      exact nf _ d3
    have nL : a ≠ X.env.locals := fun z => nfr (List.mem_filterMap.mpr ⟨X.env, List.mem_cons_self, by rw [hf, z]⟩)
    have nst : a ∉ frs X.stack := by rw [hs]; exact nfr
    have nB : B.get? a = none := fl3.2.1
    have ng : sg.heap.get? a = none := by
      cases e : sg.heap.get? a with
      | none => rfl
      | some o =>
        rw [nb a o e nst] at nB
        cases nB
    have n0 : X.s_0.heap.get? a = none := by
      cases e : X.s_0.heap.get? a with
      | none => rfl
      | some o =>
        obtain ⟨o', q⟩ := J.base.there a o e (by rw [hex]; exact List.not_mem_nil)
        rw [ng] at q
        cases q
    have nC : ∀ y z, X.env.cells.lookup y = some z → z ≠ a := fun y z e q => by
      obtain ⟨v, ob, e2, -⟩ := J.cell y z e
      rw [q, ng] at e2
      cases e2
    have nP : ∀ p ∈ X.pn ++ pins, p.1 ≠ a := fun p hp q => by
      have e2 := (J.pin p hp).1
      rw [q, ng] at e2
      cases e2
    have S3 := toSuite J3 a
    refine wpAny_handleBy_cons (codeAny_handlers_test ?_) (by intro q; cases q)
    have LT : PySem.W.Looks M h3 (typeOf (.ref a)) cls := fun _ _ _ _ k q => wpAny_typeOf_ref (k _ _ g3) (by rw [z3.1]; exact q)
    have LM := PySem.W.exm_one (M := M) J3.kIn LT e1
    have test : ∀ {Q : Value → Shared → Prop} {E : Value → Shared → Prop}, Q c { s' with heap := h3 } → wpAny M (X.A.mark (some (.ref a))) (eval (.Name x np) X.env) Q E { s' with heap := h3 } := fun {Q E} q => by
      obtain ⟨hg, hdb, hm | ⟨hm, hv, hnn⟩⟩ := hc
      · exact ld_glob (X := X.suite a (X.pn ++ pins)) S3 hg hm q hdb
      · exact ld_blt (X := X.suite a (X.pn ++ pins)) S3 hg hm hv q hnn hdb
    refine test (LM.here ?_)
    cases b with
    | true =>
      refine codeAny_handlers_suite_as (HandSPX.lands_againZ fl3 fun h4 fl4 up4 => ?_)
      have J4 : Inv X pins σ1 H1 { s' with heap := h4 } := J.landed nb fl4.1 (u3.trans up4) os ag
      obtain ⟨o4, f4, g4, z4, d4⟩ := fl4.there
      obtain ⟨ed, go⟩ := yes rfl
      subst ed
      have J5 := track (u := ExA cls a) J4 na n0 nL nC nP (exA_ok g4 z4 d4)
      refine store_ok (X := X.suite a (X.pn ++ pins)) (v := .ref a) (toSuite J5 a) hN hi lo rfl (fun s5 S5 => ?_) (.inr hln)
      refine wpAny_mono ((hsu a (X.pn ++ pins)).run [] s5 _ _ _ S5 (go a na)) (fun fl s6 hsp => ?_) (fun _ _ z => False.elim z)
      have out : ∀ {σ6 : L2.St} {H6 : Hp} {Q : Shared → Prop}, Inv (X.suite a (X.pn ++ pins)) [] σ6 H6 s6 → (∀ s7, Inv X pins (σ6.set i none) H6 s7 → Q s7) →
          wpAny M X.A (do bindName X.env n .none; unbindBehindTheSuite X.env n pos') (fun _ s7 => Q s7) X.xe s6 := fun S6 hq => gone_ok (ofSuite ok S6) hN hi hln hq
      cases fl with
      | next => exact hsp.elim fun _ z => z.elim fun _ q => out q.1 fun s7 J7 => ⟨_, _, J7, q.2⟩
      | brk => exact hsp.elim fun _ z => z.elim fun _ q => out q.1 fun s7 J7 => ⟨_, _, J7, q.2⟩
      | cont => exact hsp.elim fun _ z => z.elim fun _ q => out q.1 fun s7 J7 => ⟨_, _, J7, q.2⟩
      | ret u =>
        obtain ⟨v6, σ6, H6, S6, r6, q6⟩ := hsp
        exact out S6 fun s7 J7 => ⟨_, _, _, J7, r6, q6⟩
    | false =>
      obtain ⟨b', e1', yes', no'⟩ := no rfl
      refine wpAny_handleBy_cons (codeAny_handlers_test ?_) (by intro q; cases q)
      have LM2 := PySem.W.exm_one (M := M) J3.kIn LT e1'
      have test2 : ∀ {Q : Value → Shared → Prop} {E : Value → Shared → Prop}, Q c2 { s' with heap := h3 } → wpAny M (X.A.mark (some (.ref a))) (eval (.Name x2 np2) X.env) Q E { s' with heap := h3 } := fun {Q E} q => by
        obtain ⟨hg, hdb, hm | ⟨hm, hv, hnn⟩⟩ := hc2
        · exact ld_glob (X := X.suite a (X.pn ++ pins)) S3 hg hm q hdb
        · exact ld_blt (X := X.suite a (X.pn ++ pins)) S3 hg hm hv q hnn hdb
      refine test2 (LM2.here ?_)
      cases b' with
      | true =>
        refine codeAny_handlers_suite_as (HandSPX.lands_againZ fl3 fun h4 fl4 up4 => ?_)
        have J4 : Inv X pins σ1 H1 { s' with heap := h4 } := J.landed nb fl4.1 (u3.trans up4) os ag
        obtain ⟨o4, f4, g4, z4, d4⟩ := fl4.there
        obtain ⟨ed, go⟩ := yes' rfl
        subst ed
        have J5 := track (u := ExA cls a) J4 na n0 nL nC nP (exA_ok g4 z4 d4)
        refine store_ok (X := X.suite a (X.pn ++ pins)) (v := .ref a) (toSuite J5 a) hN hi lo rfl (fun s5 S5 => ?_) (.inr hln)
        refine wpAny_mono ((hsu2 a (X.pn ++ pins)).run [] s5 _ _ _ S5 (go a na)) (fun fl s6 hsp => ?_) (fun _ _ z => False.elim z)
        have out : ∀ {σ6 : L2.St} {H6 : Hp} {Q : Shared → Prop}, Inv (X.suite a (X.pn ++ pins)) [] σ6 H6 s6 → (∀ s7, Inv X pins (σ6.set i none) H6 s7 → Q s7) →
            wpAny M X.A (do bindName X.env n .none; unbindBehindTheSuite X.env n pos2') (fun _ s7 => Q s7) X.xe s6 := fun S6 hq => gone_ok (ofSuite ok S6) hN hi hln hq
        cases fl with
        | next => exact hsp.elim fun _ z => z.elim fun _ q => out q.1 fun s7 J7 => ⟨_, _, J7, q.2⟩
        | brk => exact hsp.elim fun _ z => z.elim fun _ q => out q.1 fun s7 J7 => ⟨_, _, J7, q.2⟩
        | cont => exact hsp.elim fun _ z => z.elim fun _ q => out q.1 fun s7 J7 => ⟨_, _, J7, q.2⟩
        | ret u =>
          obtain ⟨v6, σ6, H6, S6, r6, q6⟩ := hsp
          exact out S6 fun s7 J7 => ⟨_, _, _, J7, r6, q6⟩
      | false =>
        show wpAny M X.A (handleBy (.ref a) X.env []) _ _ _
        refine wpAny_handleBy_nil ?_
        obtain ⟨-, -, -, oe, vs, T, oT, ts', he, hz, hd, h1, hr⟩ := id fl3
        unfold PySem.passOn
        refine wpAny_bind (wpAny_field he hd h1 ?_)
        rw [if_neg (show ¬ ((Value.ref T == Value.none) = true) from by simp)]
        have fin : wpAny M X.A (setFlight (.ref a) X.env.frame) (fun _ u4 => wpAny M X.A (throw (.ref a) : Sem Flow) (SP X pins D) X.xe u4) X.xe { s' with heap := h3 } := by
          rw [hf]
          refine HandSPX.setFlight_upZ fl3 fun h4 hh4 up4 => wpAny_throw (tk _ _ ?_)
          exact ⟨a, B, sg, pins, σ1, H1, cls, d, rfl, J, nb, u3.trans up4, .inr (.inr (by rw [hs]; exact hh4)), na, os, ag, no' rfl⟩
        first
          | exact wpAny_bind (wpAny_pure (wpAny_bind fin))
          | exact wpAny_bind fin
  · cases fl with
    | next => exact hsp.elim fun σ1 z => z.elim fun H1 q => wpAny_execs_nil ⟨σ1, H1, q.1.ofTry ok, q.2⟩
    | brk => exact hsp.elim fun σ1 z => z.elim fun H1 q => ⟨σ1, H1, q.1.ofTry ok, q.2⟩
    | cont => exact hsp.elim fun σ1 z => z.elim fun H1 q => ⟨σ1, H1, q.1.ofTry ok, q.2⟩
    | ret u =>
      obtain ⟨v, σ1, H1, J, r, q⟩ := hsp
      exact ⟨v, σ1, H1, J.ofTry ok, r, q⟩
end

section
variable {fa : List Fa} {fn : List DefD} {xl : XL} {K : PySem.W.Frag} {mg : Str → Option Value}
theorem Told.missed (T : Told fa fn xl K mg) {d c : Str} {i : Nat} {ts : TS} {Wo : WX} {D : Ends} {σ : L2.St} {H : Hp} (hd : d ∈ xl.ex) (hc : c ∈ xl.ex) (hu : under d c = false) (h : Wo (.ref (ga K d)) none σ H) :
    wTr K (.ref (ga K c)) i ts Wo D (.ref (ga K d)) none σ H :=
  ⟨false, by rw [((T.err hd).2.2 c hc).2, hu], (fun z => by cases z), (fun _ => h)⟩
theorem Told.caughtU (T : Told fa fn xl K mg) {d c : Str} {ts : Addr → Value → Option Addr → TS} {r : List (Value × (Addr → Value → Option Addr → TS))} {Wo : WX} {D : Ends} {σ : L2.St} {H : Hp} (hd : d ∈ xl.ex) (hc : c ∈ xl.ex) (hu : under d c = true)
    (h : ∀ a, H a = none → ts a (.ref (ga K d)) none D σ H) : wMany K Wo D ((.ref (ga K c), ts) :: r) (.ref (ga K d)) none σ H :=
  ⟨true, by rw [((T.err hd).2.2 c hc).2, hu], (fun _ => h), (fun z => by cases z)⟩
theorem Told.missedU (T : Told fa fn xl K mg) {d c : Str} {ts : Addr → Value → Option Addr → TS} {r : List (Value × (Addr → Value → Option Addr → TS))} {Wo : WX} {D : Ends} {σ : L2.St} {H : Hp} (hd : d ∈ xl.ex) (hc : c ∈ xl.ex) (hu : under d c = false)
    (h : wMany K Wo D r (.ref (ga K d)) none σ H) : wMany K Wo D ((.ref (ga K c), ts) :: r) (.ref (ga K d)) none σ H :=
  ⟨false, by rw [((T.err hd).2.2 c hc).2, hu], (fun z => by cases z), (fun _ => h)⟩
end
end G
namespace G
open PySem PySem.Spec PySem.Calls PyProof.Rows L2 He
/-! ### for k in d -/
def LockW (t : TS) (D : Ends) (σ : L2.St) (H : Hp) : Prop := tLock t D σ H
section
variable {t : TS} {D : Ends} {σ : L2.St} {H : Hp} {d : Addr} {kvs : List (Key × V)} {td : TE} {R : It → Hp → Prop} {o : Obj} {g : TG} {tb : TS}
theorem x_lock : tLock t D σ H = LockW t D σ H := rfl
theorem lockD (hd : H d = some (.dK kvs)) (h : ∀ od, t ⟨fun σ' H' => H' d = some (.frz od (.dK kvs)) ∧ D.nx σ' (upd H' d (.dK kvs)), fun v H' => H' d = some (.frz od (.dK kvs)) ∧ D.rt v (upd H' d (.dK kvs)), fun σ' H' => H' d = some (.frz od (.dK kvs)) ∧ D.bk σ' (upd H' d (.dK kvs)), fun σ' H' => H' d = some (.frz od (.dK kvs)) ∧ D.ct σ' (upd H' d (.dK kvs))⟩ σ (upd H d (.frz od (.dK kvs)))) : LockW t D σ H := ⟨d, _, hd, trivial, h⟩
theorem x_keys : iKeys td σ H R = td σ H fun x H1 => ∃ d o, x = .ref d ∧ ((∃ kvs, H1 d = some (.frz o (.dK kvs)) ∧ R (Itk d o kvs) H1) ∨ ∃ kvs, H1 d = some (.frz o (.dT kvs)) ∧ R (Itkt d o kvs) H1) := rfl
theorem forW_keys (Pv : Nat → L2.St → Hp → Prop) (h0 : Pv 0 σ H) (hG : ∀ i σ H, i ≤ kvs.length → Pv i σ H → H d = some (.frz o (.dK kvs)))
    (hs : ∀ i k v σ H, kvs[i]? = some (k, v) → Pv i σ H → g (kV k) σ H fun σ2 H2 => tb { D with nx := Pv (i + 1), ct := Pv (i + 1), bk := D.nx } σ2 H2) (hd : ∀ σ H, Pv kvs.length σ H → D.nx σ H) : ForW (Itk d o kvs) g tb D σ H :=
  for_it walk_keys Pv h0 hG (fun i x σ H H' hi p y => by
    obtain ⟨rfl, k, v, e, rfl⟩ := y
    exact hs i k v σ _ e p) hd
theorem dget_f {i : Int} (h : H d = some (.frz o (.dK kvs))) : DGet H d (.int i) (valV kvs (.inl i : Key)) := .inl ⟨kvs, .inl i, .inr ⟨o, h⟩, rfl, rfl⟩
end
end G
namespace G
open PySem PySem.Spec PySem.Calls PyProof.Rows L2 He
/-! ### == of dicts, dict(d), xs.pop(i) -/
section
variable {X : Cx} {σ : L2.St} {H : Hp} {Q : VK}
def gEqDD : R2 := fun x y H Q => ∃ a b kvs kvs', x = .ref a ∧ y = .ref b ∧ H a = some (.dK kvs) ∧ H b = some (.dK kvs') ∧ ((kvs = kvs' ∧ (kvs.map (·.1)).Nodup ∧ (∀ p ∈ kvs, flatB p.2 = true) ∧ Q (.bl true) H) ∨ (kvs.length ≠ kvs'.length ∧ Q (.bl false) H))
def gNeDD : R2 := fun x y H Q => ∃ a b kvs kvs', x = .ref a ∧ y = .ref b ∧ H a = some (.dK kvs) ∧ H b = some (.dK kvs') ∧ ((kvs = kvs' ∧ (kvs.map (·.1)).Nodup ∧ (∀ p ∈ kvs, flatB p.2 = true) ∧ Q (.bl false) H) ∨ (kvs.length ≠ kvs'.length ∧ Q (.bl true) H))
theorem op_eqDD (hu : X.A.units < cLine) : OpR X (compareOp .Eq) gEqDD := by
  intro pins s σ H x y v u Q I rx ry h
  obtain ⟨a, b, kvs, kvs', rfl, rfl, ea, eb, h⟩ := h
  obtain rfl : v = Value.ref a := rx
  obtain rfl : u = Value.ref b := ry
  obtain ⟨_, ya, va, ra, da⟩ := (show ObjOk X.prog X.w H s.heap a (.dK kvs) from I.hok a _ ea)
  obtain ⟨_, yb, vb, rb, db⟩ := (show ObjOk X.prog X.w H s.heap b (.dK kvs') from I.hok b _ eb)
  rcases h with ⟨rfl, nd, fl, q⟩ | ⟨ne, q⟩
  · have hl : va.length = vb.length := ra.length.symm.trans rb.length
    exact PySem.W.keq_eq (knd := mixKind X.prog X.w) (r := true) ya yb da db hu (fun _ => hits_all rb ra fun p hp => ⟨val_nodup nd p hp, fl p hp⟩) (fin_bl I q (by simp [hl]))
  · have hl : va.length ≠ vb.length := fun z => ne (ra.length.trans (z.trans rb.length.symm))
    exact PySem.W.keq_eq (knd := mixKind X.prog X.w) (r := true) ya yb da db hu (fun z => absurd z hl) (fin_bl I q (by simp [hl]))
theorem op_neDD (hu : X.A.units < cLine) : OpR X (compareOp .NotEq) gNeDD := by
  intro pins s σ H x y v u Q I rx ry h
  obtain ⟨a, b, kvs, kvs', rfl, rfl, ea, eb, h⟩ := h
  obtain rfl : v = Value.ref a := rx
  obtain rfl : u = Value.ref b := ry
  obtain ⟨_, ya, va, ra, da⟩ := (show ObjOk X.prog X.w H s.heap a (.dK kvs) from I.hok a _ ea)
  obtain ⟨_, yb, vb, rb, db⟩ := (show ObjOk X.prog X.w H s.heap b (.dK kvs') from I.hok b _ eb)
  rcases h with ⟨rfl, nd, fl, q⟩ | ⟨ne, q⟩
  · have hl : va.length = vb.length := ra.length.symm.trans rb.length
    exact PySem.W.keq_ne (knd := mixKind X.prog X.w) (r := true) ya yb da db hu (fun _ => hits_all rb ra fun p hp => ⟨val_nodup nd p hp, fl p hp⟩) (fin_bl I q (by simp [hl]))
  · have hl : va.length ≠ vb.length := fun z => ne (ra.length.trans (z.trans rb.length.symm))
    exact PySem.W.keq_ne (knd := mixKind X.prog X.w) (r := true) ya yb da db hu (fun z => absurd z hl) (fin_bl I q (by simp [hl]))
theorem r_eqDD {a b : Addr} {kvs : List (Key × V)} (h1 : H a = some (.dK kvs)) (h2 : H b = some (.dK kvs)) (nd : (kvs.map (·.1)).Nodup) (fl : ∀ p ∈ kvs, flatB p.2 = true) (q : Q (.bl true) H) : gEqDD (.ref a) (.ref b) H Q := ⟨a, b, kvs, kvs, rfl, rfl, h1, h2, .inl ⟨rfl, nd, fl, q⟩⟩
theorem r_neDD {a b : Addr} {kvs : List (Key × V)} (h1 : H a = some (.dK kvs)) (h2 : H b = some (.dK kvs)) (nd : (kvs.map (·.1)).Nodup) (fl : ∀ p ∈ kvs, flatB p.2 = true) (q : Q (.bl false) H) : gNeDD (.ref a) (.ref b) H Q := ⟨a, b, kvs, kvs, rfl, rfl, h1, h2, .inl ⟨rfl, nd, fl, q⟩⟩
theorem r_eqDL {a b : Addr} {kvs kvs' : List (Key × V)} (h1 : H a = some (.dK kvs)) (h2 : H b = some (.dK kvs')) (ne : kvs.length ≠ kvs'.length) (q : Q (.bl false) H) : gEqDD (.ref a) (.ref b) H Q := ⟨a, b, kvs, kvs', rfl, rfl, h1, h2, .inr ⟨ne, q⟩⟩
def rDictD : List V → Hp → VK → Prop := fun xs H Q => ∃ (a : Addr) (kvs : List (Key × V)), xs = [.ref a] ∧ Rd H a (.dK kvs) ∧ ∀ p, H p = none → Q (.ref p) (upd H p (.dK kvs))
theorem call_dictDK : CallR X (.type "dict") rDictD := call_dictD
theorem r_isiD {a : Addr} {kvs : List (Key × V)} (h : H a = some (.dK kvs)) (q : Q (.bl true) H) : gIsi [.ref a, .ty "dict"] H Q := r_isi (t := "dict") (by show tyO (H a) = _; rw [h]; rfl) q
def rLenDD : List V → Hp → VK → Prop := fun xs H Q => ∃ a kvs, xs = [V.ref a] ∧ H a = some (.dK kvs) ∧ Q (.int kvs.length) H
theorem call_lenDD : CallR X (.builtin "len") rLenDD := call_lenD
theorem r_lenDD {a : Addr} {kvs : List (Key × V)} (h : H a = some (.dK kvs)) (q : Q (.int (kvs.length : Int)) H) : rLenDD [.ref a] H Q := ⟨_, _, rfl, h, q⟩
theorem r_popAt {a : Addr} {xs : List V} {i : Nat} {y : V} (h : H a = some (.lst xs)) (hi : xs[i]? = some y) (hs : xs.length ≤ sizeLine) (q : Q y (upd H a (.lst (xs.eraseIdx i)))) : rPopAt (.ref a) [.int (i : Int)] H Q := by
  have hl := (List.getElem?_eq_some_iff.mp hi).1
  have sz := sizeLine_eq
  refine ⟨a, xs, _, i, y, rfl, rfl, h, by omega, by omega, ?_, hi, q⟩
  unfold seqIndex?
  simp only [if_neg (show ¬ ((i : Int) < 0) by omega)]
  rw [if_pos (by rw [Bool.and_eq_true, decide_eq_true_eq, decide_eq_true_eq]; omega), Int.toNat_natCast]
theorem cutV_one {xs : List V} : cutV xs (some 1) none = xs.drop 1 := by
  have e : HT.sIx xs.length 0 (some 1) = min 1 xs.length := HT.sIx_nat _ _ 1
  unfold cutV
  rw [e, HT.sIx_none]
  cases xs with
  | nil => rfl
  | cons x r =>
    have e : min 1 (x :: r).length = 1 := by rw [List.length_cons]; omega
    rw [e]
    show (r.take (r.length + 1 - 1)) = r
    rw [Nat.add_sub_cancel, List.take_length]
/-! ### zip -/
theorem x_zip {ta : TA} {R : It → Hp → Prop} {K : PySem.W.Frag} : iZip K ta σ H R = ta σ H fun vs H1 => ∃ a b xs ys, vs = [.ref a, .ref b] ∧ SqL K H1 a xs ∧ SqL K H1 b ys ∧ R (Itz K a b) H1 := rfl
theorem forW_zip {K : PySem.W.Frag} {g : TG} {tb : TS} {D : Ends} {a b : Addr} {xs ys : List V} (Pv : Nat → L2.St → Hp → Prop) (h0 : Pv 0 σ H) (hG : ∀ i σ H, i ≤ min xs.length ys.length → Pv i σ H → SqL K H a xs ∧ SqL K H b ys)
    (hs : ∀ i x y T σ H, xs[i]? = some x → ys[i]? = some y → H T = none → Pv i σ H → g (.ref T) σ (upd H T (.tup [x, y])) fun σ2 H2 => tb { D with nx := Pv (i + 1), ct := Pv (i + 1), bk := D.nx } σ2 H2) (hd : ∀ σ H, Pv (min xs.length ys.length) σ H → D.nx σ H) : ForW (Itz K a b) g tb D σ H :=
  for_it (walk_zip rfl) Pv h0 hG (fun i x σ H H' hi p y => by
    obtain ⟨T, u, v, rfl, nT, rfl, e1, e2⟩ := y
    exact hs i u v T σ H e1 e2 nT p) hd
end
end G
namespace G
open PySem PySem.Spec PySem.Calls PyProof.Rows L2 He
/-! ### a comprehension whose item may raise -/
/-- what is wanted behind a block that began in env: an error goes on in env's frame -/
def PostX (M : Model) (A : Around) (E : Value → Shared → Prop) (env : Env) (Q : Value → Shared → Prop) (acc : Value) (C : Addr) : Result → Shared → Prop
  | .ok _, t => ∃ m, t.heap.Ns C m ∧ ∀ h', Heap.SameBut C t.heap h' → Q acc { t with heap := h' }
  | .error x, t => ∃ m, t.heap.Ns C m ∧ ∀ h', Heap.SameBut C t.heap h' → ∀ ce : Env, ce.locals = C → ce.frame = env.frame → wpAny M A (PySem.passOn "comprehension.variables-let-go" x ce : Sem Value) (fun _ _ => False) E { t with heap := h' }
section
variable {M : Model} {A : Around} {E : Value → Shared → Prop} {s : Shared} {env : Env}
theorem compX {e : Expr} {scope : Scope} {pos : Pos} {new fst : Sem Value} {g : Comprehension} {gs : List Comprehension} {cl : List (Str × Addr)} {Q : Value → Shared → Prop}
    (c1 : clausesOf e = g :: gs) (c2 : ∀ x, foldedSetIterable g.iter env x = pure x) (c3 : closureFor scope env = pure cl) (c4 : scope.kind = .function) (c5 : ∀ x ∈ scope.names, x.2 = .local → scope.names.lookup x.1 = some .local)
    (c6 : wpAny M A fst (fun x s1 => wpAny M A (pyIter x) (fun it s2 => wpAny M A new (fun acc s3 => wpAny M A (newFunctionEnv scope env.globals cl [] env.qual none .none (some env)) (fun ce s4 => ce.frame = env.frame ∧
        codeAny M A (.compStart e 0 it acc { ce with scope := relabel scope env }) (PostX M A E env Q acc ce.locals) s4) E s3) E s2) E s1) E s) :
    wpAny M A (comprehension e scope env pos new false fst none) Q E s := by
  have again : ∀ {α : Type} {m : Sem α} {R R' : α → Shared → Prop} {t : Shared}, wpAny M A m R E t → (∀ a u, R a u → R' a u) → wpAny M A m R' E t := fun k f => wpAny_mono k f fun _ _ z => z
  unfold comprehension
  rw [c3, c1]
  refine wpAny_bind (again c6 fun x s1 k1 => wpAny_bind (wpAny_standAt (wpAny_bind (wpAny_of_eq (c2 x) (wpAny_bind (wpAny_holding (again k1 fun it s2 k2 => ?_)))))))
  refine wpAny_standIf (wpAny_bind (again k2 fun acc s3 k3 => wpAny_bind (wpAny_pure (wpAny_bind (again k3 fun ce s4 k4 => ?_)))))
  obtain ⟨fr, k4⟩ := k4
  dsimp only
  have see : ∀ y ∈ (scope.names.filter fun y => (y.2 == .local || y.2 == .cell) && y.1 != (".0" : Str)).reverse, y.2 = .local → Env.kindOf { ce with scope := relabel scope env } y.1 = some .local := fun y hy hl =>
    lookup_relabel_local (c5 y (List.mem_filter.mp (List.mem_reverse.mp hy)).1 hl)
  refine wpAny_holding (wpAny_bind (wpAny_attempt (wpAny_holding (wpAny_run (codeAny_mono k4 fun r t k5 => ?_)))))
  cases r with
  | ok f =>
    obtain ⟨m, n5, k6⟩ := k5
    exact wpAny_bind (wpAny_holding (wpAny_comp_letGo (cenv := { ce with scope := relabel scope env }) c4 _ t m see n5 fun h' m' _ z => wpAny_pure (k6 h' z)))
  | error x =>
    obtain ⟨m, n5, k6⟩ := k5
    exact wpAny_bind (wpAny_holding (wpAny_comp_letGo (cenv := { ce with scope := relabel scope env }) c4 _ t m see n5 fun h' m' _ z => wpAny_mono (k6 h' z _ rfl fr) (fun _ _ f => f.elim) fun _ _ y => y))
end
section
variable {M : Model} {A : Around} {E : Value → Shared → Prop} {s : Shared} {Z : Obj → Prop} {base : Heap} {env : Env} {outer : List Env} {L e : Addr}
/-- a frame is noted behind another one -/
theorem look_fromZ {fl : Value} {Q : Unit → Shared → Prop} (hZ : HandSPX.Steady Z) (fr : A.frames = some (env :: outer)) (ef : env.frame = some L) (b1 : base.StaysIn s.heap) (b2 : base.get? e = none) (b3 : s.heap.FunFrames base (env :: outer))
    (tr : HandSPX.TracedZ s.heap base e Z fl) (ne : (fl == rawInt L) = false) (hQ : ∀ h', HandSPX.HeldZ base (env :: outer) e Z L h' → s.heap.UpToSlots h' → Q () { s with heap := h' }) : wpAny M A (noteFrame (.ref e) env) Q E s := by
  obtain ⟨oe, vs, T, oT, ts, he, hz, hd, h1, hnT, hTe, hT, hdT, h3⟩ := tr
  unfold noteFrame
  simp only [ef]
  refine wpAny_bind (wpAny_field he hd h1 ?_)
  rw [if_pos (by simp : (Value.ref T != Value.none) = true)]
  refine wpAny_bind (wpAny_field hT hdT h3 ?_)
  rw [if_neg (by rw [ne]; exact Bool.false_ne_true : ¬ ((fl == rawInt L) = true))]
  refine wpAny_bind (wpAny_setField hT hdT (Array.getElem?_eq_some_iff.mp h3).1 ?_)
  have off : ∀ b, b ≠ T → (s.heap.update T (Obj.mapFields (·.setIfInBounds 3 Value.none))).get? b = s.heap.get? b := fun b n => Heap.get?_update_other _ _ n.symm
  have plain : ∀ b o, s.heap.get? b = some o → (∀ v, o.data ≠ .fields v) → b ≠ T := fun b o g n q => by
    rw [q, hT] at g
    cases g
    exact n ts hdT
  refine HandSPX.wpAny_entryZ hZ fr (b3.of_keeps fun b o g n => ⟨o, (off b (plain b o g n)).trans g, rfl⟩) ef ((off e hTe.symm).trans he)
    (fun b o g => (off b fun q => by rw [q, hnT] at g; cases g).trans (b1 b o g)) b2 hd (Array.getElem?_eq_some_iff.mp h1).1 hz fun h' nt => ?_
  obtain ⟨x1, x2, x3, x4⟩ := nt
  exact hQ h' ⟨x1, b2, x2, x3⟩ fun b o g n => x4 b o ((off b (plain b o g n)).trans g) n
theorem funFrames_off {base base' h h' : Heap} {C : Addr} (k : ∀ b o, b ≠ C → h.get? b = some o → h'.get? b = some o) (kb : ∀ b, base.get? b = none → base'.get? b = none) : ∀ {l : List Env}, h.FunFrames base l → C ∉ frs l → h'.FunFrames base' l
  | [], _, _ => trivial
  | env :: l, ff, nC => by
    obtain ⟨hk, ⟨L, o, hf, hb, ho, hd⟩, hr⟩ := ff
    have nL : L ≠ C := fun z => nC (List.mem_filterMap.mpr ⟨env, List.mem_cons_self, by rw [hf, z]⟩)
    exact ⟨hk, ⟨L, o, hf, kb L hb, k L o nL ho, hd⟩, funFrames_off k kb hr fun m => by
      obtain ⟨e, he, q⟩ := List.mem_filterMap.mp m
      exact nC (List.mem_filterMap.mpr ⟨e, List.mem_cons_of_mem _ he, q⟩)⟩
end
/-- the context of a block that may raise -/
abbrev blkX (X : Cx) (s : Shared) (H : Hp) (scope : Scope) (ce : Env) (fp : List Addr) (xe : Value → Shared → Prop) : Cx := { X.blk s H scope ce fp with xe := xe }
theorem blkX_inv {X : Cx} {s : Shared} {H : Hp} {scope : Scope} {ce : Env} {fp : List Addr} {xe : Value → Shared → Prop} {pins : List (Addr × Obj)} {σ : L2.St} {H' : Hp} {t : Shared} (I : Inv (X.blk s H scope ce fp) pins σ H' t) : Inv (blkX X s H scope ce fp xe) pins σ H' t :=
  ⟨⟨I.ok.mod, I.ok.kind, I.ok.glob, I.ok.blt, I.ok.above, I.ok.inj, I.ok.has, I.ok.cab, I.ok.hd, I.ok.frames, I.ok.stk, I.ok.exf, I.ok.bs, I.ok.bsz, I.ok.noex, I.ok.exfs, I.ok.funs, I.ok.frf⟩, I.os, I.bare, I.base, I.loc, I.cell, I.free, I.freeC, I.pin, I.hok, I.len⟩
/-- an error leaves a block -/
theorem blk_err {X : Cx} {pins0 : List (Addr × Obj)} {σ : L2.St} {H3 : Hp} {s3 : Shared} {scope : Scope} {ce : Env} {fp : List Addr} {xe : Value → Shared → Prop} {Eo : XK} {Q : Value → Shared → Prop} {acc u : Value} {t : Shared} {E1 : Value → Shared → Prop}
    (hs : X.stack = X.env :: X.outer) (hf : X.env.frame = some X.env.locals) (I3 : Inv X pins0 σ H3 s3) (f3 : ∀ b ∈ fp, FpOk X pins0 H3 b) (cL : ce.locals = s3.heap.objs.size) (cf : ce.frame = X.env.frame)
    (tk : Takes X fun c d _ H => Eo c d H) (x : XE (blkX X s3 H3 scope ce fp xe) (fun c d _ H => Eo c d H) u t) :
    wpAny (model X.prog X.w) X.A (noteFrame u ce) (fun _ t' => PostX (model X.prog X.w) X.A X.xe X.env Q acc s3.heap.objs.size (.error u) t') E1 t := by
  obtain ⟨a, B, sI, pins, σ', H', cls, d, rfl, I, nb, up, sky, na, os, ag, w⟩ := x
  have fr : X.A.frames = some (X.env :: X.outer) := by rw [I3.ok.frames, hs]
  have J : Inv X pins0 σ H' sI := I3.call' (ch := fp) I.os I.base I.hok I.bare fun b hb => ⟨(f3 b hb).2.2.2.1, (f3 b hb).2.1, (f3 b hb).2.2.2.2.1, (f3 b hb).2.2.2.2.2⟩
  have free : H' ce.locals = none := I.free
  obtain ⟨m, ns, -⟩ := I.loc
  have ns : sI.heap.Ns ce.locals m := ns
  rw [cL] at free ns
  generalize hC : s3.heap.objs.size = C at free ns cL ⊢
  have fC : FpOk X pins0 H' C := I3.fpOk (Nat.le_of_eq hC) free
  have Cst : C ∉ frs X.stack := by
    rw [hs]
    intro z
    obtain ⟨v, hv, q⟩ := List.mem_filterMap.mp z
    rcases List.mem_cons.mp hv with rfl | hv
    · rw [hf] at q
      exact fC.2.1 (Option.some.inj q).symm
    · exact fC.2.2.1 (List.mem_filterMap.mpr ⟨v, hv, q⟩)
  obtain ⟨oC, es, ep, gC, rC⟩ := ns
  have bC : B.get? C = some oC := nb C oC gC Cst
  have en : (noteFrame (.ref a) ce : Sem Unit) = noteFrame (.ref a) X.env := by
    unfold noteFrame PySem.frameOf
    rw [cf]
  rw [en]
  have go : ∀ h1, HandSPX.HeldZ B (X.env :: X.outer) a (Zc cls d) X.env.locals h1 → t.heap.UpToSlots h1 → PostX (model X.prog X.w) X.A X.xe X.env Q acc C (.error (.ref a)) { t with heap := h1 } := fun h1 hh up1 => by
    obtain ⟨b1, b2, b3, oe, vs, T, oT, ts, he, hz, hd, h1', hnT, hTe, hT, hdT, h3⟩ := hh
    refine ⟨m, ⟨oC, es, ep, b1 _ _ bC, rC⟩, fun h' sb ce' e1 e2 => ?_⟩
    have aC : a ≠ C := fun z => by rw [z, bC] at b2; cases b2
    have TC : T ≠ C := fun z => by rw [z, bC] at hnT; cases hnT
    have off : ∀ b o, b ≠ C → h1.get? b = some o → h'.get? b = some o := fun b o n g => (sb.2 b n).trans g
    have hid : ∀ b, B.get? b = none → (PySem.W.hideAll B [C]).get? b = none := fun b g => by
      cases q : (PySem.W.hideAll B [C]).get? b with
      | none => rfl
      | some o => rw [PySem.W.of_hideAll _ q] at g; cases g
    have hidC : ∀ {h : Heap} {b o}, (PySem.W.hideAll h [C]).get? b = some o → b ≠ C := fun {h b o} g z => by
      rw [z, PySem.W.hideAll_none [C] (List.mem_singleton_self C)] at g
      cases g
    unfold PySem.passOn
    refine wpAny_bind (wpAny_field (off a oe aC he) hd h1' ?_)
    rw [if_neg (by simp : ¬ ((Value.ref T == Value.none) = true))]
    have fin : wpAny (model X.prog X.w) X.A (setFlight (.ref a) ce'.frame) (fun _ u4 => wpAny (model X.prog X.w) X.A (throw (.ref a) : Sem Value) (fun _ _ => False) X.xe u4) X.xe { t with heap := h' } := by
      rw [e2, hf]
      refine HandSPX.setFlight_anyZ (base := PySem.W.hideAll B [C]) (l := X.env :: X.outer) (Z := Zc cls d) (fl := rawInt X.env.locals) (fun b o g => off b o (hidC g) (b1 b o (PySem.W.of_hideAll _ g))) (funFrames_off off hid b3 (by rw [← hs]; exact Cst))
        ⟨oe, vs, T, oT, ts, off a oe aC he, hz, hd, h1', hid T hnT, hTe, off T oT TC hT, hdT, h3⟩ fun h4 k1 k2 k3 k4 => wpAny_throw (tk _ _ ?_)
      have J' : Inv X pins0 σ H' { sI with heap := PySem.W.hideAll sI.heap [C], toks := sI.toks } := J.turned (it := C) (fun b o n g => PySem.W.hideAll_get [C] g (fun z => n (List.mem_singleton.mp z))) free fC.2.1 fC.2.2.2.1 fC.2.2.2.2.1 fC.2.2.2.2.2
      refine ⟨a, PySem.W.hideAll B [C], _, pins0, σ, H', cls, d, rfl, J', fun b o g n => ?_, fun b o g nf => ?_, .inr (.inr (by rw [hs]; exact ⟨k1, hid a b2, k2, k3⟩)), na, os, ag, w⟩
      · exact PySem.W.hideAll_get [C] (nb b o (PySem.W.of_hideAll _ g) n) fun z => hidC g (List.mem_singleton.mp z)
      · have bn := hidC g
        obtain ⟨l1, g1⟩ := up b o (PySem.W.of_hideAll _ g) nf
        obtain ⟨l2, g2⟩ := up1 b _ g1 nf
        obtain ⟨l4, g4⟩ := k4 b _ (off b _ bn g2) nf
        exact ⟨l4, g4⟩
    first
      | exact wpAny_bind (wpAny_pure (wpAny_bind fin))
      | exact wpAny_bind fin
  rw [hs] at sky
  rcases sky with ⟨hB, hn, hl, oe, vs, he, hz, hd, h1⟩ | fl | hh
  · exact HandSPX.look_newZ Zc.steady fr hl hf he hB hn hd h1 hz go
  · exact HandSPX.looks_onZ Zc.steady fr hf fl go
  · obtain ⟨b1, b2, b3, b4⟩ := hh
    refine look_fromZ Zc.steady fr hf b1 b2 b3 b4 ?_ go
    have ne : ce.locals ≠ X.env.locals := by rw [cL]; exact fC.2.1
    simp [rawInt]
    exact fun z => ne (Int.ofNat.inj z)
/-- [elt for tg in iter if ..], of which elt may raise -/
theorem pe_lcX {X : Cx} {elt tg iter : Expr} {ifs : List Expr} {scope : Scope} {own : List (Str × Nat)} {pos : Pos} {wi : TI} {g : TG} {tt : TT} {te : XK → TE} {Eo : XK} (tk : Takes X fun c d _ H => Eo c d H) (es : X.stack = X.env :: X.outer) (ef : X.env.frame = some X.env.locals) (hc : X.calm = true)
    (hN : X.N.Nodup) (hi : PI X tg iter wi) (ok : BlkOk X.N X.env.scope scope own) (hg : ∀ (s : Shared) (H : Hp) (C : Addr) (cl : List (Str × Addr)) (fp : List Addr) (xe : Value → Shared → Prop), PG (blkX X s H scope (compEnvC scope cl C X.env) fp xe) tg g)
    (ht : ∀ (s : Shared) (H : Hp) (C : Addr) (cl : List (Str × Addr)) (fp : List Addr) (xe : Value → Shared → Prop), PTs (blkX X s H scope (compEnvC scope cl C X.env) fp xe) ifs tt)
    (he : ∀ (s : Shared) (H : Hp) (C : Addr) (cl : List (Str × Addr)) (fp : List Addr) (xe : Value → Shared → Prop) (E : XK), Takes (blkX X s H scope (compEnvC scope cl C X.env) fp xe) (fun c d _ H => E c d H) → PE (blkX X s H scope (compEnvC scope cl C X.env) fp xe) elt (te E))
    (hset : ∀ x, foldedSetIterable iter X.env x = pure x := by intro _; rfl) : PE X (.ListComp elt [⟨tg, iter, ifs, 0⟩] scope pos) (tLc wi g tt (te Eo) (own.map (·.2))) := by
  refine ⟨fun pins s σ H Q I h => ?_⟩
  rw [eval_ListComp]
  have clo : ∀ y ∈ scope.names, y.2 = .free → ∃ c, X.env.cells.lookup y.1 = some c := fun y hy e => (ok.free y hy e).elim (fun k => I.ok.has _ (.inl k)) fun k => I.ok.has _ (.inr k)
  refine compX rfl hset (closure_ok clo) ok.kind (fun y hy z => by rw [ok.uniq y hy, z]) (thn (hi.run pins s σ H _ I h) fun xv t1 hx => thn hx fun itv t2 h2 => ?_)
  obtain ⟨it, fp, tn, J, H2, e, I2, T, st2, f2, q⟩ := h2
  subst e
  refine wpAny_newObj_type (newEnv_comp ⟨rfl, ?_⟩) (by show 0 ≤ sizeLine; decide)
  generalize eD : t2.heap.objs.size = D
  obtain ⟨W, ⟨m0, w0⟩, turn⟩ := q D (I2.hok.fresh (Nat.le_of_eq eD))
  generalize e3 : ({ t2 with heap := t2.heap.push { cls := .type "list", data := .seq ([] : List Value).toArray } } : Shared) = t3
  have g3 : t3.heap = t2.heap.push { cls := .type "list", data := .seq ([] : List Value).toArray } := by rw [← e3]
  have I3 : Inv X pins σ (upd H2 D (.lst [])) t3 := by
    rw [← e3]
    refine I2.laid (t' := t2.toks) (fun b o g => Heap.get?_push_of_some _ g) (Nat.le_of_eq eD) ⟨Nat.zero_le _, [], 0, .nil, ?_⟩
    rw [← eD]
    exact Heap.get?_push_size _ rfl
  have lt2 : ∀ b ∈ fp, b < t2.heap.objs.size := fun b hb => let ⟨o, e, _⟩ := T.obj _ _ st2 b hb; Heap.lt_size e
  have f3 : ∀ b ∈ fp, FpOk X pins (upd H2 D (.lst [])) b ∧ b < t3.heap.objs.size := fun b hb => by
    have hl := lt2 b hb
    refine ⟨⟨?_, (f2 b hb).2⟩, by rw [g3, Heap.size_push]; exact Nat.lt_succ_of_lt hl⟩
    rw [upd_ne (by rw [← eD]; exact Nat.ne_of_lt hl)]
    exact (f2 b hb).1
  have st3 : tn 0 t3.heap := T.keep _ _ _ st2 fun b _ o g => by rw [g3]; exact Heap.get?_push_of_some _ g
  have I4 := block_start I3 ok hN f3
  have pg := hg t3 (upd H2 D (.lst [])) t3.heap.objs.size (cellsFrom (t3.heap.objs.size + 1) scope.names (cloFrom X.env.cells scope.names [])) fp
  have pt := ht t3 (upd H2 D (.lst [])) t3.heap.objs.size (cellsFrom (t3.heap.objs.size + 1) scope.names (cloFrom X.env.cells scope.names [])) fp
  have pe := he t3 (upd H2 D (.lst [])) t3.heap.objs.size (cellsFrom (t3.heap.objs.size + 1) scope.names (cloFrom X.env.cells scope.names [])) fp
  show codeAny _ _ (.compStart (.ListComp elt [⟨tg, iter, ifs, 0⟩] scope pos) 0 (.ref it) (.ref D) (compEnvC scope (cellsFrom (t3.heap.objs.size + 1) scope.names (cloFrom X.env.cells scope.names [])) t3.heap.objs.size X.env)) (PostX (model X.prog X.w) X.A X.xe X.env (EP X pins σ Q) (.ref D) t3.heap.objs.size) { t3 with heap := pushCells (t3.heap.push { cls := .type "dict", data := .dict #[] }) scope.names }
  have nfp : ∀ b ∈ fp, (upd H2 D (.lst [])) b = none := fun b hb => (f3 b hb).1.1
  generalize ece : compEnvC scope (cellsFrom (t3.heap.objs.size + 1) scope.names (cloFrom X.env.cells scope.names [])) t3.heap.objs.size X.env = ce at I4 pg pt pe ⊢
  have cL : ce.locals = t3.heap.objs.size := by subst ece; rfl
  have cf : ce.frame = X.env.frame := by subst ece; rfl
  generalize eH3 : upd H2 D (.lst []) = H3 at I3 I4 pg pt pe w0 nfp f3
  generalize e4 : ({ t3 with heap := pushCells (t3.heap.push { cls := .type "dict", data := .dict #[] }) scope.names } : Shared) = t4 at I4 ⊢
  have st4 : tn 0 t4.heap := T.keep _ _ _ st3 fun b _ o g => by rw [← e4]; exact pushCells_keeps _ _ _ _ (Heap.get?_push_of_some _ g)
  let R := PostX (model X.prog X.w) X.A X.xe X.env (EP X pins σ Q) (.ref D) t3.heap.objs.size
  let xe := notedBy (model X.prog X.w) X.A ce fun e t' => R (.error e) t'
  have tkb : Takes (blkX X t3 H3 scope ce fp xe) (fun c d _ H => Eo c d H) := fun u t x => blk_err (pins0 := pins) (xe := xe) es ef I3 (fun b hb => (f3 b hb).1) cL cf tk x
  have pg := pg xe
  have pt := pt xe
  have pe := pe xe Eo tkb
  have I4 : Inv (blkX X t3 H3 scope ce fp xe) [] (wipe σ (own.map (·.2))) H3 t4 := blkX_inv I4
  have stat : ∀ {σ' : L2.St} {H' : Hp} {t' : Shared}, Inv (blkX X t3 H3 scope ce fp xe) [] σ' H' t' → (∀ b ∈ fp, H' b = none) → ∀ b ∈ fp, FpOk (blkX X t3 H3 scope ce fp xe) [] H' b := fun {σ' H' t'} I' hn b hb =>
    ⟨hn b hb, (I'.ok.exf b hb).1, I'.ok.exfs b hb, .inl hb, fun x c e => (I'.ok.exf b hb).2 x c e, fun p hp => absurd (show p ∈ ([] : List (Addr × Obj)) ++ [] from hp) (by simp)⟩
  have loop : codeAny (model X.prog X.w) X.A (.compLoop (.ListComp elt [⟨tg, iter, ifs, 0⟩] scope pos) 0 (.ref it) (.ref D) ce) R t4 := by
    refine compLoop_any (fun n t' => ∃ i H', Inv (blkX X t3 H3 scope ce fp xe) [] (wipe σ (own.map (·.2))) H' t' ∧ tn i t'.heap ∧ (∀ b ∈ fp, H' b = none) ∧ W i n H') ?_ m0 ⟨0, H3, I4, st4, nfp, w0⟩
    rintro n t5 ⟨i, H5, I5, st5, n5, w5⟩
    rcases turn i n H5 w5 with ⟨stop, qq⟩ | ⟨go, Nx, hNx, step⟩
    · have td := T.done (blkX X t3 H3 scope ce fp xe) rfl rfl rfl hc i [] t5 _ H5 (fun _ _ => False) I5 (stat I5 n5) st5 stop
      refine thnF td fun r t6 ⟨hr, I6⟩ => ?_
      subst hr
      have I7 : Inv X pins σ H5 t6 := I3.call' (ch := fp) I6.os I6.base I6.hok I6.bare fun b hb => ⟨(f3 b hb).1.2.2.2.1, (f3 b hb).1.2.1, (f3 b hb).1.2.2.2.2.1, (f3 b hb).1.2.2.2.2.2⟩
      have nC : H5 t3.heap.objs.size = none := cL ▸ (show H5 ce.locals = none from I6.free)
      obtain ⟨m, hn, -⟩ := I6.loc
      have hn : t6.heap.Ns ce.locals m := hn
      rw [cL] at hn
      obtain ⟨a0, a1, a2, a3, a4, a5⟩ := I3.fpOk (Nat.le_refl _) nC
      exact ⟨m, hn, fun h' sb => ⟨.ref D, H5, I7.turned (t' := t6.toks) (fun b o n g => (sb.2 b n).trans g) a0 a1 a3 a4 a5, rfl, qq⟩⟩
    · have ti := T.item (blkX X t3 H3 scope ce fp xe) rfl rfl rfl hc i [] t5 _ H5 (fun _ _ => False) I5 (stat I5 n5) st5 go
      refine thnF ti fun r t6 ⟨u, hr, h6⟩ => ?_
      subst hr
      refine thnF h6 fun _ t7 ⟨x, H7, I7, r7, y7, st7, n7⟩ => ?_
      refine thn (pg.run _ t7 _ H7 x u _ (I7.pinned (stat I7 n7) (T.obj _ _ st7)) r7 (step x H7 y7)) fun _ t8 ⟨σ8, H8, I8, hw8, q8⟩ => ?_
      refine thn (pt.run _ t8 σ8 H8 _ I8 q8) fun b t9 ⟨H9, I9, q9⟩ => ?_
      have fin : ∀ {t' : Shared} {H' : Hp}, Inv (blkX X t3 H3 scope ce fp xe) ([] ++ pinsAt fp t7.heap) σ8 H' t' → Nx H' → ∃ m, m < n ∧ ∃ i H', Inv (blkX X t3 H3 scope ce fp xe) [] (wipe σ (own.map (·.2))) H' t' ∧ tn i t'.heap ∧ (∀ b ∈ fp, H' b = none) ∧ W i m H' := fun {t' H'} I' nx => by
        obtain ⟨m', hm, w'⟩ := hNx H' nx
        have pn : ∀ b ∈ fp, ∀ o, t7.heap.get? b = some o → t'.heap.get? b = some o ∧ H' b = none := fun b hb o g =>
          let z := I'.pin (b, o) (List.mem_append_right _ (List.mem_append_right _ (mem_pinsAt hb g))); ⟨z.1, z.2.1⟩
        have el : (wipe σ (own.map (·.2))).length = σ8.length := by rw [← hw8, wipe_length]
        refine ⟨m', hm, i + 1, H', (I'.unpinned (pins := [])).weak el (fun j v g => ?_), T.keep _ _ _ st7 fun b hb o g => (pn b hb o g).1, fun b hb => ?_, w'⟩
        · rw [← hw8] at g
          exact (wipe_some g).1
        · obtain ⟨o, g, _⟩ := T.obj _ _ st7 b hb
          exact (pn b hb o g).2
      cases b with
      | false =>
        simp only [Bool.false_eq_true, if_false] at q9 ⊢
        exact fin I9 q9
      | true =>
        simp only [if_true] at q9 ⊢
        refine thn (pe.run _ t9 σ8 H9 _ I9 q9) fun z t10 ⟨yv, H10, I10, r10, acc, hD10, hz10, nx⟩ => ?_
        exact app_ok (X := blkX X t3 H3 scope ce fp xe) I10 hD10 hz10 r10 fun t11 I11 => fin I11 nx
  exact codeAny_compStart_list loop (T.self X.A 0 _ _ _ st4 loop)
end G
namespace G
open PySem PySem.Spec PySem.Calls PyProof.Rows L2 He
/-! ### texts -/
/-- a text by its signs -/
abbrev Sg (l : List Nat) : Str := ⟨l.toArray⟩
theorem Sg_tl (l : List Nat) : TL.tl (Sg l) = l := rfl
theorem Sg_of (z : Str) : z = Sg (TL.tl z) := (TL.mk_tl z).symm
theorem Sg_inj {a b : List Nat} : Sg a = Sg b ↔ a = b := ⟨fun h => by have := congrArg TL.tl h; exact this, fun h => by rw [h]⟩
theorem Sg_add (a b : List Nat) : Sg a ++ Sg b = Sg (a ++ b) := TL.ext_tl (by rw [TL.tl_append])
theorem Sg_len (a : List Nat) : (Sg a).length = a.length := by rw [TL.len_tl]
theorem Sg_eq {a b : List Nat} : decide (Sg a = Sg b) = decide (a = b) := by
  by_cases h : a = b
  · rw [decide_eq_true h, decide_eq_true (Sg_inj.mpr h)]
  · rw [decide_eq_false h, decide_eq_false fun z => h (Sg_inj.mp z)]
def cutL (l : List Nat) (lo hi : Option Int) : List Nat := (l.drop (HT.sIx l.length 0 lo)).take (HT.sIx l.length l.length hi - HT.sIx l.length 0 lo)
theorem cutS_S {l : List Nat} {lo hi : Option Int} : cutS (Sg l) lo hi = Sg (cutL l lo hi) := by
  unfold cutS cutL
  rw [show (Sg l).length = l.length from Sg_len l]
theorem cutL_to {l : List Nat} {k : Nat} : cutL l none (some (k : Int)) = l.take k := by
  unfold cutL
  rw [HT.sIx_none, HT.sIx_nat, List.drop_zero, Nat.sub_zero]
  by_cases h : k ≤ l.length
  · rw [Nat.min_eq_left h]
  · rw [Nat.min_eq_right (by omega), List.take_length, List.take_of_length_le (by omega)]
theorem cutL_from {l : List Nat} {k : Nat} : cutL l (some (k : Int)) none = l.drop k := by
  unfold cutL
  rw [HT.sIx_none, HT.sIx_nat]
  by_cases h : k ≤ l.length
  · rw [Nat.min_eq_left h, List.take_of_length_le (by rw [List.length_drop]; omega)]
  · rw [Nat.min_eq_right (by omega), Nat.sub_self, List.take_zero, List.drop_eq_nil_of_le (by omega)]
theorem cutL_to1 {l : List Nat} : cutL l none (some 1) = l.take 1 := cutL_to (k := 1)
theorem cutL_from1 {l : List Nat} : cutL l (some 1) none = l.drop 1 := cutL_from (k := 1)
section
variable {X : Cx} {K : PySem.W.Frag} {σ : L2.St} {H : Hp} {Q : VK} {D : Ends} {g : TG} {tb : TS}
/-- a text so many times -/
def repL (l : List Nat) : Nat → List Nat
  | 0 => []
  | n + 1 => l ++ repL l n
theorem repL_len {l : List Nat} : ∀ {n : Nat}, (repL l n).length = n * l.length
  | 0 => by rw [Nat.zero_mul]; rfl
  | n + 1 => by
    show (l ++ repL l n).length = _
    rw [List.length_append, repL_len, Nat.succ_mul, Nat.add_comm]
theorem rep_fold : ∀ {n : Nat} {a : Array Nat} {l : List Nat}, ((List.replicate n l.toArray).foldl (· ++ ·) a).toList = a.toList ++ repL l n
  | 0, a, l => by
    rw [show repL l 0 = [] from rfl, List.append_nil]
    rfl
  | n + 1, a, l => by
    show ((List.replicate n l.toArray).foldl (· ++ ·) (a ++ l.toArray)).toList = _
    rw [rep_fold, Array.toList_append, List.append_assoc]
    rfl
def gRepS : R2
  | .str z, .int n, H, Q => 0 ≤ n ∧ n ≤ 1000 ∧ z.length ≤ 1000 ∧ Q (.str (Sg (repL (TL.tl z) n.toNat))) H
  | _, _, _, _ => False
theorem op_gRepS : OpR X (binaryOp .Mult) gRepS := by
  intro pins s σ H x y v u Q I rx ry h
  unfold gRepS at h
  split at h
  · rename_i z n
    obtain ⟨h0, h1, h2, q⟩ := h
    obtain ⟨t, rfl⟩ := rx
    obtain ⟨t', rfl⟩ := ry
    rcases Int.lt_or_le n 1 with c | c
    · obtain rfl : n = 0 := by omega
      exact PySem.P.mul_str_none (by decide) (by decide) ⟨.str Str.empty, _, I.tok _, ⟨_, rfl⟩, q⟩
    · obtain ⟨m, rfl⟩ := Int.eq_ofNat_of_zero_le h0
      refine PySem.P.mul_str (by rw [Bool.or_eq_false_iff]; exact ⟨decide_eq_false (by omega), decide_eq_false (by omega)⟩) (fun _ _ => ?_) (fun _ _ => ?_) ?_
      · have : (1000 : Int) ≤ (2 ^ 63 - 1) / (m : Int) := (Int.le_ediv_iff_mul_le (by omega)).mpr (by omega)
        omega
      · rw [Int.toNat_natCast]
        have : z.length * m ≤ 1000 * 1000 := Nat.mul_le_mul h2 (by omega)
        have sz : sizeLine = 16777216 := sizeLine_eq
        exact decide_eq_false (by omega)
      · rw [if_neg (by omega)]
        have e1 : (⟨(List.replicate m z.cps).foldl (· ++ ·) #[]⟩ : Str) = Sg (repL (TL.tl z) m) := TL.ext_tl (by
          have := rep_fold (n := m) (a := #[]) (l := z.cps.toList)
          rw [Array.toArray_toList] at this
          exact this)
        rw [Int.toNat_natCast] at q ⊢
        split
        · rename_i c2
          have e2 : z = Sg (repL (TL.tl z) m) := by
            rw [Bool.or_eq_true] at c2
            rcases c2 with c2 | c2
            · obtain rfl : m = 1 := by
                have := of_decide_eq_true c2
                omega
              exact TL.ext_tl (by show TL.tl z = TL.tl z ++ []; rw [List.append_nil])
            · have c2 : z.length = 0 := by simpa using c2
              rw [TL.len_tl] at c2
              refine TL.ext_tl ?_
              have e : (repL (TL.tl z) m).length = 0 := by rw [repL_len, c2, Nat.mul_zero]
              rw [List.eq_nil_of_length_eq_zero c2]
              rw [List.eq_nil_of_length_eq_zero c2] at e
              exact (List.eq_nil_of_length_eq_zero e).symm
          rw [← e2] at q
          exact ⟨.str z, _, I, ⟨_, rfl⟩, q⟩
        · rw [e1]
          refine ⟨?_, .str _, _, I.tok _, ⟨_, rfl⟩, q⟩
          have sz : sizeLine = 16777216 := sizeLine_eq
          have : m * (TL.tl z).length ≤ 1000 * 1000 := Nat.mul_le_mul (by omega) (by rw [← TL.len_tl]; exact h2)
          rw [Sg_len, repL_len]
          omega
  · exact h.elim
theorem r_repS {l : List Nat} {n : Int} : gRepS (.str (Sg l)) (.int n) H Q = (0 ≤ n ∧ n ≤ 1000 ∧ (Sg l).length ≤ 1000 ∧ Q (.str (Sg (repL l n.toNat))) H) := rfl
/-- a sign in a text -/
def gInS : R2 := fun x y H Q => ∃ (c : Nat) (z : Str), x = .str ⟨#[c]⟩ ∧ y = .str z ∧ Q (.bl (decide (c ∈ z.cps.toList))) H
def gNinS : R2 := fun x y H Q => ∃ (c : Nat) (z : Str), x = .str ⟨#[c]⟩ ∧ y = .str z ∧ Q (.bl (!decide (c ∈ z.cps.toList))) H
theorem op_gInS : OpR X (compareOp .In) gInS := op_in_sign
theorem op_gNinS : OpR X (compareOp .NotIn) gNinS := op_notIn_sign
theorem r_inS {c : Nat} {z : Str} : gInS (.str ⟨#[c]⟩) (.str z) H Q = Q (.bl (decide (c ∈ TL.tl z))) H := propext ⟨fun ⟨_, _, e, e', q⟩ => by cases e; cases e'; exact q, fun q => ⟨c, z, rfl, rfl, q⟩⟩
theorem r_ninS {c : Nat} {z : Str} : gNinS (.str ⟨#[c]⟩) (.str z) H Q = Q (.bl (!decide (c ∈ TL.tl z))) H := propext ⟨fun ⟨_, _, e, e', q⟩ => by cases e; cases e'; exact q, fun q => ⟨c, z, rfl, rfl, q⟩⟩
/-- x in a written tuple of flat things -/
theorem r_inT {a : Addr} {xs : List V} {x : V} (h : H a = some (.tup xs)) (fx : flatV x = true) (fs : xs.all flatV = true) (q : Q (.bl (inV x xs)) H) : rInG K false x (.ref a) H Q := .inl ⟨a, xs, rfl, .inr (.inl (.inl h)), fx, fs, by rw [if_neg Bool.false_ne_true]; exact q⟩
theorem r_ninT {a : Addr} {xs : List V} {x : V} (h : H a = some (.tup xs)) (fx : flatV x = true) (fs : xs.all flatV = true) (q : Q (.bl (!inV x xs)) H) : rInG K true x (.ref a) H Q := .inl ⟨a, xs, rfl, .inr (.inl (.inl h)), fx, fs, by rw [if_pos (rfl : true = true)]; exact q⟩
theorem r_inL {a : Addr} {xs : List V} {x : V} (h : SqL K H a xs) (fx : flatV x = true) (fs : xs.all flatV = true) (q : Q (.bl (inV x xs)) H) : rIn K false x (.ref a) H Q := ⟨a, xs, rfl, .inl h, fx, fs, by rw [if_neg Bool.false_ne_true]; exact q⟩
theorem r_ninL {a : Addr} {xs : List V} {x : V} (h : SqL K H a xs) (fx : flatV x = true) (fs : xs.all flatV = true) (q : Q (.bl (!inV x xs)) H) : rIn K true x (.ref a) H Q := ⟨a, xs, rfl, .inl h, fx, fs, by rw [if_pos (rfl : true = true)]; exact q⟩
/-- for c in a text -/
theorem x_str {te : TE} {R : It → Hp → Prop} : iStr te σ H R = te σ H fun v H1 => ∃ x, v = .str x ∧ R (Its x) H1 := rfl
theorem x_strE {z : Str} {P : Str → Prop} : (∃ x, V.str z = V.str x ∧ P x) = P z := propext ⟨fun ⟨_, e, q⟩ => by cases e; exact q, fun q => ⟨z, rfl, q⟩⟩
theorem forW_str {l : List Nat} (Pv : Nat → L2.St → Hp → Prop) (h0 : Pv 0 σ H) (hs : ∀ (i c : Nat) σ H, l[i]? = some c → Pv i σ H → g (.str (Sg [c])) σ H fun σ2 H2 => tb { D with nx := Pv (i + 1), ct := Pv (i + 1), bk := D.nx } σ2 H2)
    (hd : ∀ σ H, Pv l.length σ H → D.nx σ H) : ForW (Its (Sg l)) g tb D σ H :=
  for_it (walk_str (z := Sg l)) Pv h0 (fun _ _ _ _ _ => trivial) (fun i x σ H H' hi p y => by
    obtain ⟨rfl, c, e, rfl⟩ := y
    exact hs i c σ _ (by simpa using e) p) (by simpa using hd)
/-! ### calls -/
def gIntS : List V → Hp → VK → Prop := fun xs H Q => ∃ a n, xs = [.str a] ∧ PySem.intText? a = some n ∧ a.length ≤ 640 ∧ Q (.int n) H
theorem call_gIntS : CallR X (.type "int") gIntS := call_int_str
def gStrI : List V → Hp → VK → Prop
  | [.int i], H, Q => i.natAbs.log2 < 1920 ∧ Q (.str (toString i)) H
  | _, _, _ => False
theorem call_gStrI : CallR X (.type "str") gStrI := by
  intro pins s σ H xs us Q I r h
  unfold gStrI at h
  split at h
  · exact call_str_int pins s σ _ _ us Q I r ⟨_, rfl, h.1, h.2⟩
  · exact h.elim
theorem r_strI {i : Int} (h : i.natAbs.log2 < 1920) (q : Q (.str (Str.ofString (toString i))) H) : gStrI [.int i] H Q := ⟨h, q⟩
def rTupG (K : PySem.W.Frag) : List V → Hp → VK → Prop := fun xs H Q => ∃ p ys, xs = [.ref p] ∧ ((SqL K H p ys ∧ ∀ l, H l = none → Q (.ref l) (upd H l (.tup ys))) ∨ (SqT K H p ys ∧ Q (.ref p) H))
theorem call_tupK (hK : X.K = K) : CallR X (.type "tuple") (rTupG K) := hK ▸ call_tuple_of
def rJoin (K : PySem.W.Frag) : V → List V → Hp → VK → Prop := fun x xs H Q => ∃ a p, ∃ ys : List Str, x = .str a ∧ xs = [.ref p] ∧ (SqL K H p (ys.map V.str) ∨ SqT K H p (ys.map V.str)) ∧ (ys.map (·.length)).sum + ys.length * a.length ≤ 16777216 ∧ Q (.str (Txt.join a ys)) H
theorem mt_joinK (hK : X.K = K) : MtR X "str.join" (rJoin K) := hK ▸ mt_join
def rSplit : V → List V → Hp → VK → Prop := fun x xs H Q => ∃ a b, x = .str a ∧ xs = [.str b] ∧ (b.length == 0) = false ∧ a.length + 2 ≤ sizeLine ∧ rNewStrs (Txt.split a b) H Q
theorem mt_splitG : MtR X "str.split" rSplit := mt_split
def rFindS : V → List V → Hp → VK → Prop := fun x xs H Q => ∃ a b, x = .str a ∧ xs = [.str b] ∧ Q (.int (Txt.find a b)) H
theorem mt_findG : MtR X "str.find" rFindS := mt_find
theorem mt_indexK (hK : X.K = K) : MtR X "list.index" (rIndex K) := hK ▸ mt_index
/-- texts by their signs -/
def SgL (ps : List (List Nat)) : List V := ps.map fun p => V.str (Sg p)
theorem r_split {l : List Nat} {c : Nat} (hc : c < 256) (hz : l.length + 2 ≤ sizeLine) (q : ∀ p, H p = none → Q (.ref p) (upd H p (.lst (SgL (TL.spl [c] 0 [] l))))) : rSplit (.str (Sg l)) [.str (Sg [c])] H Q := by
  refine ⟨_, _, rfl, rfl, rfl, by rw [Sg_len]; exact hz, fun p hp => ?_⟩
  have e := TL.split_spl (Sg l) (Sg [c]) (by simp) (TL.kind_ok (by simp [hc]))
  have e2 : (Txt.split (Sg l) (Sg [c])).map V.str = SgL (TL.spl [c] 0 [] l) := by
    have e : (Txt.split (Sg l) (Sg [c])).map TL.tl = TL.spl [c] 0 [] l := e
    rw [← e]
    unfold SgL
    rw [List.map_map]
    refine List.map_congr_left fun z _ => ?_
    show V.str z = V.str (Sg (TL.tl z))
    rw [← Sg_of]
  rw [e2]
  exact q p hp
theorem r_join {sep : List Nat} {ps : List (List Nat)} {p : Addr} (h : SqL K H p (SgL ps)) (hz : (ps.map List.length).sum + ps.length * sep.length ≤ 16777216) (q : Q (.str (Sg (TL.joinL sep ps))) H) : rJoin K (.str (Sg sep)) [.ref p] H Q := by
  refine ⟨_, p, ps.map Sg, rfl, rfl, .inl (by rw [List.map_map]; exact h), ?_, ?_⟩
  · rw [List.map_map, List.length_map, Sg_len, show ((·.length) ∘ Sg : List Nat → Nat) = List.length from funext fun l => Sg_len l]
    exact hz
  · have e : Txt.join (Sg sep) (ps.map Sg) = Sg (TL.joinL sep ps) := TL.ext_tl (by
      rw [TL.join_eq, TL.tl_join, List.map_map, show (TL.tl ∘ Sg) = (id : List Nat → List Nat) from rfl, List.map_id])
    rw [e]
    exact q
theorem r_ixStr {l : List Nat} {i c : Nat} (hz : l.length ≤ sizeLine) (e : l[i]? = some c) (q : Q (.str (Sg [c])) H) : rIx K (.str (Sg l)) (.int (i : Int)) H Q :=
  .inr (.inr ⟨_, _, c, rfl, rfl, by rw [Sg_len]; exact hz, atI_nat e, q⟩)
theorem r_lenStr {l : List Nat} : (q : l.length ≤ sizeLine ∧ Q (.int (l.length : Int)) H) → L2.rLen K [.str (Sg l)] H Q := fun q => ⟨_, _, rfl, by show (Sg l).length ≤ sizeLine ∧ _ = (Sg l).length; rw [Sg_len]; exact ⟨q.1, rfl⟩, q.2⟩
theorem r_slStr {l : List Nat} {lo hi : Option Int} (hz : l.length ≤ sizeLine) (q : Q (.str (Sg (cutL l lo hi))) H) : rSlS (.str (Sg l)) lo hi H Q := ⟨_, rfl, by rw [Sg_len]; exact hz, by rw [cutS_S]; exact q⟩
theorem r_tupL {a : Addr} {xs : List V} (h : SqL K H a xs) (q : ∀ l, H l = none → Q (.ref l) (upd H l (.tup xs))) : rTupG K [.ref a] H Q := ⟨a, xs, rfl, .inl ⟨h, q⟩⟩
end
end G
namespace G
open PySem PySem.Spec PySem.Calls PyProof.Rows L2 He
/-! ### suites of some statements -/
section
variable {X : Addr → List (Addr × Obj) → Cx} {st : Stmt} {rest a b : List Stmt} {t u : TS} {tc : TT} {c : Expr} {pos : Pos}
theorem su_nil : ∀ x y, PSs (X x y) [] tNext := fun _ _ => pss_nil
theorem su_one (h : ∀ x y, PS (X x y) st t) : ∀ x y, PSs (X x y) [st] t := fun x y => pss_one (h x y)
theorem su_cons (h1 : ∀ x y, PS (X x y) st t) (h2 : ∀ x y, PSs (X x y) rest u) : ∀ x y, PSs (X x y) (st :: rest) (tSeq t u) := fun x y => pss_cons (h1 x y) (h2 x y)
theorem su_if (h : ∀ x y, PT (X x y) c tc) (h1 : ∀ x y, PSs (X x y) a t) (h2 : ∀ x y, PSs (X x y) b u) : ∀ x y, PS (X x y) (.If c a b pos) (tIfS tc t u) := fun x y => ps_if (h x y) (h1 x y) (h2 x y)
end
theorem pe_isTK {X : Cx} {K : PySem.W.Frag} {a : Expr} {es : List Expr} {x1} {ta : TE} {tc : TA} {p tp pos : Pos} (hK : X.K = K) (hg : Gl X "isinstance") (hm : X.mg "isinstance" = none) (ha : PE X a ta) (hc : PA X es tc)
    (he : starEach [a, .Tuple es x1 tp] X.env = [(false, eval a X.env), (false, eval (.Tuple es x1 tp) X.env)] := by rfl) : PE X (.Call (.Name "isinstance" p) [a, .Tuple es x1 tp] [] pos) (tIsT K ta tc) := by
  subst hK
  exact pe_isT hg hm ha hc he
end G
namespace G
open PySem PySem.Spec PySem.Calls PyProof.Rows L2 He
/-! ### a written dict -/
section
variable {σ : L2.St} {H : Hp} {Q : VK} {K : PySem.W.Frag}
theorem x_disp {trs : List (TE × TE)} : tDisp trs σ H Q = ∀ p, H p = none → tPairs trs σ (upd H p (.dK [])) fun ps H2 => H2 p = some (.dK []) ∧ ∃ kvs : List (Key × V), ps = kvs.map (fun kv => (kV kv.1, kv.2)) ∧ kvs.length ≤ 15 ∧ Q (.ref p) (upd H2 p (.dK (mergeK [] kvs))) := rfl
theorem x_pnil {R : List (V × V) → Hp → Prop} : tPairs [] σ H R = R [] H := rfl
theorem x_pcons {tk tv : TE} {r : List (TE × TE)} {R : List (V × V) → Hp → Prop} : tPairs ((tk, tv) :: r) σ H R = tk σ H fun x H1 => tv σ H1 fun y H2 => tPairs r σ H2 fun ps H3 => R ((x, y) :: ps) H3 := rfl
theorem r_lenT {a : Addr} {xs : List V} (h : H a = some (.tup xs)) (q : Q (.int (xs.length : Int)) H) : L2.rLen K [.ref a] H Q := ⟨_, _, rfl, .inr ⟨_, .inl (.inl h), rfl⟩, q⟩
theorem call_maxK {X : Cx} {K : PySem.W.Frag} (hK : X.K = K) (hc : X.calm = true) : CallR X (.builtin "max") (rMax K) := hK ▸ cr_max hc
theorem call_minK {X : Cx} {K : PySem.W.Frag} (hK : X.K = K) (hc : X.calm = true) : CallR X (.builtin "min") (rMin K) := hK ▸ cr_min hc
end
end G
namespace G
open PySem PySem.Spec PySem.Calls PyProof.Rows L2 He
/-! ### d.get(x), x None too -/
/-- a dict of ints and texts, seen with keys that may be None -/
theorem leaf_map {P : Program} {w : World} {h : Heap} {a : Addr} {vs : List (Key × Value)} (d : h.DictOf (mixKind P w) a vs) : ∃ f, h.MapOf (leafKind P w) a f ∧ f .none = none := by
  obtain ⟨o, es, ep, h1, h2, h3, h4, -, -⟩ := d
  refine ⟨fun k => findBy (leafKind P w).is es k, ⟨o, es, ep, h1, h2, h3, fun e m => ?_, fun k => rfl⟩, ?_⟩
  · obtain ⟨k, hk, hh⟩ := h4 e m
    cases k with
    | inl i =>
      obtain ⟨t, et⟩ := Value.isInt_shape (k := i) (v := e.key) hk
      exact ⟨.num i, by rw [et]; exact decide_eq_true rfl, hh⟩
    | inr x => exact ⟨.text x, hk, hh⟩
  · show (Array.find? (fun e => (leafKind P w).is .none e.key) es).map (·.val) = none
    rw [Array.find?_eq_none.mpr fun e m => ?_]
    · rfl
    · obtain ⟨k, hk, -⟩ := h4 e m
      rcases keyIs_shape hk with ⟨i, t, -, e2⟩ | ⟨x, t, -, e2⟩ <;> (rw [e2]; exact Bool.false_ne_true)
theorem d_getN {X : Cx} {pins : List (Addr × Obj)} {σ : L2.St} {H : Hp} {s : Shared} {a : Addr} {kvs : List (Key × V)} {A : Around} {E : Value → Shared → Prop} {Q : Value → Shared → Prop} (I : Inv X pins σ H s) (e : Rd H a (.dK kvs)) (h : ∀ s', Inv X pins σ H s' → Q .none s') :
    wpAny (model X.prog X.w) A (call (.builtin "dict.get") [.ref a, .none]) Q E s := by
  obtain ⟨z, hd, vs, rel, dd⟩ := dk_rd I.hok e
  obtain ⟨f, fm, fn⟩ := leaf_map dd
  refine call_meetsIn PySem.F.slot_dict_get dd.typeIs PySem.F.entry_dict_get (PySem.F.args_dict_get_2 _ _) (meets_dict_get (leafKind X.prog X.w) (k := .none) (key := .none) a rfl hd) ⟨f, fm, ?_⟩
  rw [fn]
  exact h _ (I.tok _)
def tDGetN (td ty : TE) : TE := fun σ H Q => td σ H fun x H1 => ∃ a, x = .ref a ∧ IsD H1 a ∧ ty σ H1 fun y H2 => (y = .non ∧ (∃ kvs, Rd H2 a (.dK kvs)) ∧ Q .non H2) ∨ ∃ o, DGet H2 a y o ∧ Q (o.getD .non) H2
theorem pe_dgetN {X : Cx} {o e : Expr} {apos cpos : Pos} {td ty : TE} (hu : X.A.units + 1 < cLine) (ho : PE X o td) (he : PE X e ty) (m : M1 X o "get" apos e cpos) : PE X (.Call (.Attribute o "get" apos) [e] [] cpos) (tDGetN td ty) := by
  refine ⟨fun pins s σ H Q I h => ?_⟩
  refine wpAny_Call_method m.base m.few m.line PySem.F.plainAttrs_dict PySem.F.slot_dict_get PySem.F.type_dict_get (thn (ho.run pins s σ H _ I h) fun u s1 ⟨x, H1, I1, rx, a, ex, d, q1⟩ => ?_)
  subst ex
  obtain rfl : u = Value.ref a := rx
  obtain ⟨t1, t2, _⟩ := isD_at I1 d
  refine ⟨t1, t2, ?_⟩
  rw [m.trees]
  refine Calls.callWith_builtin rfl (Calls.evalArgs_plain (Calls.spliced_cons (thn (he.run pins s1 σ H1 _ I1 q1) fun iv s2 ⟨y, H2, I2, ry, q2⟩ => Calls.spliced_nil ?_)))
  rcases q2 with ⟨rfl, ⟨kvs, rd⟩, q2⟩ | ⟨ov, g, q2⟩
  · obtain rfl : iv = Value.none := ry
    exact d_getN I2 rd fun s3 I3 => ⟨.non, H2, I3, rfl, q2⟩
  · exact d_get1 hu I2 g ry fun w' s3 I3 rw' => ⟨_, H2, I3, rw', q2⟩
theorem x_dgetN {σ : L2.St} {H : Hp} {Q : VK} {td ty : TE} : tDGetN td ty σ H Q = td σ H fun x H1 => ∃ a, x = .ref a ∧ IsD H1 a ∧ ty σ H1 fun y H2 => (y = .non ∧ (∃ kvs, Rd H2 a (.dK kvs)) ∧ Q .non H2) ∨ ∃ o, DGet H2 a y o ∧ Q (o.getD .non) H2 := rfl
end G
namespace G
open PySem PySem.Spec PySem.Calls PyProof.Rows L2 He
/-! ### zip of a list or a tuple with a text -/
def SqB (K : PySem.W.Frag) (b : Bool) (H : Hp) (a : Addr) (xs : List V) : Prop := match b with
  | true => SqL K H a xs
  | false => SqT K H a xs
def itB (b : Bool) (h : Heap) (i1 a : Addr) (i : Nat) : Prop := match b with
  | true => h.IsListIter i1 a i
  | false => h.IsTupleIter i1 a i
def ItzS (K : PySem.W.Frag) (b : Bool) (a : Addr) (x : Str) : It :=
  ⟨fun i H => ∃ (xs : List V) (v : V) (c : Nat), SqB K b H a xs ∧ xs[i]? = some v ∧ x.cps[i]? = some c,
    fun i H v H' => ∃ T y c, v = .ref T ∧ H T = none ∧ H' = upd H T (.tup [y, .str ⟨#[c]⟩]) ∧ (∀ xs, SqB K b H a xs → xs[i]? = some y) ∧ x.cps[i]? = some c,
    fun i H => ∃ xs : List V, SqB K b H a xs ∧ i ≤ xs.length ∧ i ≤ x.cps.size ∧ (i = xs.length ∨ i = x.cps.size)⟩
section
variable {X : Cx} {pins : List (Addr × Obj)} {σ : L2.St} {H : Hp} {s : Shared} {z TI TO i1 i2 a : Addr}
theorem zs_tail {b : Bool} {x : Str} {t : Tok} {E : Value → Shared → Prop} {elts : List Expr} {kk : Nat} {tpos : Pos} (D : ZipSep2 z TI TO i1 i2 [i1, a] [i2]) (I : Inv X pins σ H s) (hf : ∀ c ∈ [z, TI, TO, i1, i2], FpOk X pins H c)
    (hzl : z < s.heap.objs.size) (hTI : IsTupOf2 s.heap TI (.ref i1) (.ref i2)) (hTOl : TO < s.heap.objs.size) (h1l : i1 < s.heap.objs.size) (h2l : i2 < s.heap.objs.size) {i : Nat} {v : V} {c : Nat} {u u2 : Value} (ru : RelV v u) (eu2 : ∃ t', u2 = .str ⟨#[c]⟩ t')
    {h' : Heap} {tk : Tok} (z' : IsZip h' z TI TO (rawInt s.heap.objs.size)) (TO' : IsTupOf2 h' TO u u2) (hb1 : itB b h' i1 a (i + 1)) (hb2 : h'.IsStrIter i2 (strIterType x) x t (i + 1)) (hT : IsTupOf2 h' s.heap.objs.size u u2)
    (hk : ∀ c o, c ≠ z → c ≠ TO → c ≠ i1 → c ≠ i2 → s.heap.get? c = some o → h'.get? c = some o) (hv : ∀ xs, SqB X.K b H a xs → xs[i]? = some v) (hc : x.cps[i]? = some c) :
    wpAny (model X.prog X.w) X.A (letOwnedTupleGo (.Tuple elts kk tpos) (.ref z) (.ref s.heap.objs.size)) (fun _ s2 => ∃ y H2, Inv X pins σ H2 s2 ∧ RelV y (.ref s.heap.objs.size) ∧ (ItzS X.K b a x).yld i H y H2 ∧
      (IsZip s2.heap z TI TO .none ∧ IsTupOf2 s2.heap TI (.ref i1) (.ref i2) ∧ (∃ x y, IsTupOf2 s2.heap TO x y) ∧ itB b s2.heap i1 a (i + 1) ∧ s2.heap.IsStrIter i2 (strIterType x) x t (i + 1)) ∧ ∀ c ∈ [z, TI, TO, i1, i2], H2 c = none) E { s with heap := h', toks := tk } := by
  refine wpAny_letOwnedTupleGo_zip (s := { s with heap := h', toks := tk }) z' fun h'' z'' sb => ?_
  have hT2 : h''.get? s.heap.objs.size = some { cls := .type "tuple", data := .seq #[u, u2] } := (sb.2 _ (Nat.ne_of_gt hzl)).trans hT
  have ru2 : RelV (.str ⟨#[c]⟩) u2 := eu2
  have new : ObjOk X.prog X.w (upd H s.heap.objs.size (.tup [v, .str ⟨#[c]⟩])) h'' s.heap.objs.size (.tup [v, .str ⟨#[c]⟩]) :=
    ⟨by show 2 ≤ sizeLine; decide, [u, u2], .cons ru (.cons ru2 .nil), ⟨_, hT2, rfl, _, rfl⟩⟩
  have I1 : Inv X pins σ (upd H s.heap.objs.size (.tup [v, .str ⟨#[c]⟩])) { s with heap := h'', toks := tk } :=
    I.turnedNew (t' := tk) (ch := [z, TI, TO, i1, i2]) (fun c o hb q => (sb.2 c (fun q' => hb (by simp [q']))).trans (hk c o (fun q' => hb (by simp [q'])) (fun q' => hb (by simp [q'])) (fun q' => hb (by simp [q'])) (fun q' => hb (by simp [q'])) q)) hf (Nat.le_refl _) new
  refine ⟨.ref s.heap.objs.size, _, I1, rfl, ⟨_, v, c, rfl, I.hok.fresh (Nat.le_refl _), rfl, hv, hc⟩, ⟨z'', ?_, ⟨u, u2, ?_⟩, ?_, ?_⟩, fun c hcm => ?_⟩
  · exact (sb.2 _ D.TIz).trans (hk _ _ D.TIz D.TITO D.TIi1 D.TIi2 hTI)
  · exact (sb.2 _ D.TOz).trans TO'
  · cases b with
    | true => exact Heap.IsListIter.at hb1 fun o q => (sb.2 _ D.zi1.symm).trans q
    | false => exact Heap.IsTupleIter.at hb1 fun o q => (sb.2 _ D.zi1.symm).trans q
  · obtain ⟨o, ho, r⟩ := hb2
    exact ⟨o, (sb.2 _ D.zi2.symm).trans ho, r⟩
  · have hlt : c < s.heap.objs.size := by
      have e' : c = z ∨ c = TI ∨ c = TO ∨ c = i1 ∨ c = i2 := by simpa using hcm
      rcases e' with q | q | q | q | q
      · rw [q]; exact hzl
      · rw [q]; exact Heap.lt_size hTI
      · rw [q]; exact hTOl
      · rw [q]; exact h1l
      · rw [q]; exact h2l
    rw [upd_ne (Nat.ne_of_lt hlt)]
    exact (hf c hcm).1
theorem turn_zs {P : Program} {w : World} {K : PySem.W.Frag} {elts : List Expr} {kk : Nat} {tpos : Pos} {b : Bool} {x : Str} {t : Tok} (D : ZipSep2 z TI TO i1 i2 [i1, a] [i2]) (ai : a ≠ i1) :
    Turn P w K (.Tuple elts kk tpos) (ItzS K b a x) [z, TI, TO, i1, i2] z (fun i h => IsZip h z TI TO .none ∧ IsTupOf2 h TI (.ref i1) (.ref i2) ∧ (∃ x y, IsTupOf2 h TO x y) ∧ itB b h i1 a i ∧ h.IsStrIter i2 (strIterType x) x t i) where
  mem := by simp
  obj := fun i h st c hc => by
    obtain ⟨hz, hTI, ⟨x, y, hTO⟩, h1, ⟨o2, e2, _, d2⟩⟩ := st
    have h1' : ∃ o, h.get? i1 = some o ∧ ∀ v, o.data ≠ .cell v := by
      cases b with
      | true =>
        obtain ⟨o1, e1, _, d1⟩ := h1
        exact ⟨o1, e1, fun v q => by rw [d1] at q; cases q⟩
      | false =>
        obtain ⟨o1, e1, _, d1⟩ := h1
        exact ⟨o1, e1, fun v q => by rw [d1] at q; cases q⟩
    have e' : c = z ∨ c = TI ∨ c = TO ∨ c = i1 ∨ c = i2 := by simpa using hc
    rcases e' with q | q | q | q | q
    · rw [q]; exact ⟨_, hz, fun v q => nomatch q⟩
    · rw [q]; exact ⟨_, hTI, fun v q => nomatch q⟩
    · rw [q]; exact ⟨_, hTO, fun v q => nomatch q⟩
    · rw [q]; exact h1'
    · rw [q]; exact ⟨o2, e2, fun v q => by rw [d2] at q; cases q⟩
  keep := fun i h h' st k => by
    obtain ⟨hz, hTI, ⟨x, y, hTO⟩, h1, ⟨o2, e2, r2⟩⟩ := st
    refine ⟨k z (by simp) _ hz, k TI (by simp) _ hTI, ⟨x, y, k TO (by simp) _ hTO⟩, ?_, ⟨o2, k i2 (by simp) _ e2, r2⟩⟩
    cases b with
    | true => exact Heap.IsListIter.at h1 fun o q => k i1 (by simp) o q
    | false => exact Heap.IsTupleIter.at h1 fun o q => k i1 (by simp) o q
  item := by
    intro X hP hw hK hc i pins s σ H E I hf st hg
    subst hP hw hK
    obtain ⟨hz, hTI, ⟨x0, y0, hTO⟩, h1, h2⟩ := st
    obtain ⟨xs, v, c, hq, hx, hy⟩ := hg
    have hzl : z < s.heap.objs.size := Heap.lt_size hz
    have h2l : i2 < s.heap.objs.size := by obtain ⟨_, e, _⟩ := h2; exact Heap.lt_size e
    have D2 := Draws.text (prog := X.prog) (w := X.w) (A := X.A.in1) (I.ok.hd hc) i2 x t
    have lt2 : i < x.cps.size := (Array.getElem?_eq_some_iff.mp hy).1
    cases b with
    | true =>
      obtain ⟨its, rv, p, _⟩ := I.list hq
      obtain ⟨u, hu, ru⟩ := rv.get hx
      have D1 := Draws.list (prog := X.prog) (w := X.w) (A := X.A.in1) (I.ok.hd hc) i1 a ai its.toArray
      have h1l : i1 < s.heap.objs.size := by obtain ⟨_, e, _⟩ := h1; exact Heap.lt_size e
      have lt1 : i < its.toArray.size := by
        rw [List.size_toArray]
        exact (List.getElem?_eq_some_iff.mp hu).1
      refine wpAny_pyNext_zipD2_item D D1 D2 hz hTI hTO ⟨h1, p.isList⟩ h2 lt1 lt2 fun u1 u2 h' tk hx1 hx2 z' TO' st1' st2' hT hsz hk => ?_
      obtain ⟨c', t', ec', eu2⟩ := hx2
      rw [hy] at ec'
      cases ec'
      have eu1 : u = u1 := by
        have e : its[i]? = some u1 := by simpa using hx1
        rw [hu] at e
        exact Option.some.inj e
      subst eu1
      exact ⟨_, rfl, zs_tail (b := true) D I hf hzl hTI (Heap.lt_size hTO) h1l h2l ru ⟨t', eu2⟩ z' TO' st1'.1 st2' hT hk (fun l hl => by rw [I.list_inj hl hq]; exact hx) hy⟩
    | false =>
      obtain ⟨its, rv, p, _⟩ := I.tuple hq
      obtain ⟨u, hu, ru⟩ := rv.get hx
      have D1 := Draws.tuple (prog := X.prog) (w := X.w) (A := X.A.in1) (I.ok.hd hc) i1 a ai its.toArray
      have h1l : i1 < s.heap.objs.size := by obtain ⟨_, e, _⟩ := h1; exact Heap.lt_size e
      have lt1 : i < its.toArray.size := by
        rw [List.size_toArray]
        exact (List.getElem?_eq_some_iff.mp hu).1
      refine wpAny_pyNext_zipD2_item D D1 D2 hz hTI hTO ⟨h1, p⟩ h2 lt1 lt2 fun u1 u2 h' tk hx1 hx2 z' TO' st1' st2' hT hsz hk => ?_
      obtain ⟨c', t', ec', eu2⟩ := hx2
      rw [hy] at ec'
      cases ec'
      have eu1 : u = u1 := by
        have e : its[i]? = some u1 := by simpa using hx1
        rw [hu] at e
        exact Option.some.inj e
      subst eu1
      exact ⟨_, rfl, zs_tail (b := false) D I hf hzl hTI (Heap.lt_size hTO) h1l h2l ru ⟨t', eu2⟩ z' TO' st1'.1 st2' hT hk (fun l hl => by rw [I.tuple_inj hl hq]; exact hx) hy⟩
  done := by
    intro X hP hw hK hc i pins s σ H E I hf st hg
    subst hP hw hK
    obtain ⟨hz, hTI, ⟨x0, y0, hTO⟩, h1, h2⟩ := st
    obtain ⟨xs, hq, le1, le2, hend⟩ := hg
    have D2 := Draws.text (prog := X.prog) (w := X.w) (A := X.A.in1) (I.ok.hd hc) i2 x t
    have fin : ∀ h' tk, (∀ c o, c ≠ z → c ≠ TO → c ≠ i1 → c ≠ i2 → s.heap.get? c = some o → h'.get? c = some o) → (none : Option Value) = none ∧ Inv X pins σ H { s with heap := h', toks := tk } := fun h' tk hk => ⟨rfl, I.turnedL (t' := tk) (ch := [z, TI, TO, i1, i2]) (fun c o hb q =>
      hk c o (fun q' => hb (by simp [q'])) (fun q' => hb (by simp [q'])) (fun q' => hb (by simp [q'])) (fun q' => hb (by simp [q'])) q) hf⟩
    cases b with
    | true =>
      obtain ⟨its, rv, p, _⟩ := I.list hq
      have l1 := rv.length
      have D1 := Draws.list (prog := X.prog) (w := X.w) (A := X.A.in1) (I.ok.hd hc) i1 a ai its.toArray
      exact wpAny_pyNext_zipD2_end D D1 D2 hz hTI hTO ⟨h1, p.isList⟩ h2 (by rw [List.size_toArray]; omega) le2 (by rw [List.size_toArray]; omega) fin
    | false =>
      obtain ⟨its, rv, p, _⟩ := I.tuple hq
      have l1 := rv.length
      have D1 := Draws.tuple (prog := X.prog) (w := X.w) (A := X.A.in1) (I.ok.hd hc) i1 a ai its.toArray
      exact wpAny_pyNext_zipD2_end D D1 D2 hz hTI hTO ⟨h1, p⟩ h2 (by rw [List.size_toArray]; omega) le2 (by rw [List.size_toArray]; omega) fin
  self := fun A i s Q E st h => wpAny_pyIter_zip st.1 h
def iZipS (K : PySem.W.Frag) (ta : TA) : L2.TI := fun σ H R => ta σ H fun vs H1 => ∃ b a x xs, vs = [.ref a, .str x] ∧ SqB K b H1 a xs ∧ R (ItzS K b a x) H1
theorem zs_sep {n a : Nat} (h : a < n) : ZipSep2 (n + 4) (n + 2) (n + 3) n (n + 1) [n, a] [n + 1] := by
  constructor <;> simp <;> exact Nat.ne_of_gt (by omega)
theorem pi_zipS0 {K : PySem.W.Frag} {e e2 : Expr} {ta : TA} {p pos tpos : Pos} {elts : List Expr} {kk : Nat} (hK : X.K = K) (hg : Gl X "zip") (hm : X.mg "zip" = none) (ha : PA X [e, e2] ta)
    (hs : starEach [e, e2] X.env = (false, eval e X.env) :: starEach [e2] X.env := by rfl) (hpl : (backTo pos (starEach [e2] X.env)).any (·.1) = false := by rfl) :
    PI X (.Tuple elts kk tpos) (.Call (.Name "zip" p) [e, e2] [] pos) (iZipS K ta) := by
  subst hK
  refine ⟨fun pins s σ H R I h => ?_⟩
  refine Call_ (ld_blt I hg hm PyProof.Rows.boot_zip (PyProof.Rows.callWith_type1 (thn (ha.run pos pins s σ H _ I h) fun us s1 ⟨vs, H1, I1, r1, q1⟩ => ?_) hs hpl))
  obtain ⟨b, a, x, xs, ex, q1⟩ := q1
  subst ex
  cases r1 with
  | cons r rr =>
    cases rr with
    | cons r' rr =>
      cases rr
      cases r
      obtain ⟨t, rfl⟩ := r'
      have fresh5 : ∀ c, c ∈ [s1.heap.objs.size + 4, s1.heap.objs.size + 2, s1.heap.objs.size + 3, s1.heap.objs.size, s1.heap.objs.size + 1] → FpOk X pins H1 c := fun c hcm => by
        have e' : c = s1.heap.objs.size + 4 ∨ c = s1.heap.objs.size + 2 ∨ c = s1.heap.objs.size + 3 ∨ c = s1.heap.objs.size ∨ c = s1.heap.objs.size + 1 := by simpa using hcm
        have hle : s1.heap.objs.size ≤ c := by
          rcases e' with z | z | z | z | z
          · rw [z]; exact Nat.le_add_right _ _
          · rw [z]; exact Nat.le_add_right _ _
          · rw [z]; exact Nat.le_add_right _ _
          · rw [z]; exact Nat.le_refl _
          · rw [z]; exact Nat.le_add_right _ _
        exact I1.fpOk hle (I1.hok.fresh hle)
      obtain ⟨hq, q⟩ := q1
      cases b with
      | true =>
        obtain ⟨its, rv, p1, _⟩ := I1.list hq
        refine zip_begins2 (begins_list a its.toArray) (begins_text x t) p1.isList trivial fun h' hz hTI hTO h1 h2 hsz hk => wpAny_pyIter_zip hz ?_
        have I2 : Inv X pins σ H1 { s1 with heap := h' } := I1.kept (t' := s1.toks) hk
        exact ⟨s1.heap.objs.size + 4, [s1.heap.objs.size + 4, s1.heap.objs.size + 2, s1.heap.objs.size + 3, s1.heap.objs.size, s1.heap.objs.size + 1], _, _, H1, rfl, I2, turn_zs (b := true) (t := t) (zs_sep p1.lt) (Nat.ne_of_lt p1.lt), ⟨hz, hTI, ⟨_, _, hTO⟩, ⟨_, h1, rfl, rfl⟩, ⟨_, h2, rfl, rfl⟩⟩, fresh5, q⟩
      | false =>
        obtain ⟨its, rv, p1, _⟩ := I1.tuple hq
        obtain ⟨o1, ho1, _⟩ := id p1
        refine zip_begins2 (begins_tuple a its.toArray) (begins_text x t) p1 trivial fun h' hz hTI hTO h1 h2 hsz hk => wpAny_pyIter_zip hz ?_
        have I2 : Inv X pins σ H1 { s1 with heap := h' } := I1.kept (t' := s1.toks) hk
        exact ⟨s1.heap.objs.size + 4, [s1.heap.objs.size + 4, s1.heap.objs.size + 2, s1.heap.objs.size + 3, s1.heap.objs.size, s1.heap.objs.size + 1], _, _, H1, rfl, I2, turn_zs (b := false) (t := t) (zs_sep (Heap.lt_size ho1)) (Nat.ne_of_lt (Heap.lt_size ho1)), ⟨hz, hTI, ⟨_, _, hTO⟩, ⟨_, h1, rfl, rfl⟩, ⟨_, h2, rfl, rfl⟩⟩, fresh5, q⟩
end
theorem walk_zipS {K : PySem.W.Frag} {b : Bool} {a : Addr} {x : Str} {xs : List V} {n : Nat} (hn : n = min xs.length x.cps.size) : Walk (ItzS K b a x) n (fun H => SqB K b H a xs) (fun i H v H' => ∃ T y c, v = .ref T ∧ H T = none ∧ H' = upd H T (.tup [y, .str ⟨#[c]⟩]) ∧ xs[i]? = some y ∧ x.cps[i]? = some c) := by
  subst hn
  refine ⟨fun i _ hi q => ?_, fun _ q => ⟨xs, q, by omega, by omega, by omega⟩, fun i H v H' _ q y => ?_⟩
  · have h1 : i < xs.length := by omega
    have h2 : i < x.cps.size := by omega
    exact ⟨xs, xs[i], x.cps[i], q, by simp [h1], by simp [h2]⟩
  · obtain ⟨T, y, c, h1, h2, h3, h4, h5⟩ := y
    exact ⟨T, y, c, h1, h2, h3, h4 xs q, h5⟩
theorem x_zipS {σ : L2.St} {H : Hp} {ta : TA} {R : It → Hp → Prop} {K : PySem.W.Frag} : iZipS K ta σ H R = ta σ H fun vs H1 => ∃ b a x xs, vs = [.ref a, .str x] ∧ SqB K b H1 a xs ∧ R (ItzS K b a x) H1 := rfl
end G
namespace G
open PySem PySem.Spec PySem.Calls PyProof.Rows L2 He
/-! ### xs.clear(), str of a text, dict(pairs), raise in a clause -/
def rClear : V → List V → Hp → VK → Prop := fun x vs H Q => ∃ l xs, x = .ref l ∧ vs = [] ∧ H l = some (.lst xs) ∧ Q .non (upd H l (.lst []))
theorem mt_clear {X : Cx} : MtM X "list.clear" rClear := by
  intro pins s σ H x vs v us Q I rx rv h
  obtain ⟨l, xs, rfl, rfl, hH, q⟩ := h
  cases rx
  have hus := rv.zero
  subst hus
  obtain ⟨z, its, n, r, hl, e⟩ := I.lstM hH
  refine call_meets PySem.F.slot_list_clear ⟨_, e, rfl⟩ PySem.F.entry_list_clear (PySem.F.args_list_clear_1 _) (PySem.AutoSeq1.list_clear_list_0 l its.toArray n (by rw [List.size_toArray]; omega)) ⟨e, ?_⟩
  refine ⟨.non, _, I.lset (its' := []) hH e rfl .nil (Nat.zero_le _), rfl, q⟩
def gStrX : List V → Hp → VK → Prop
  | [.int i], H, Q => i.natAbs.log2 < 1920 ∧ Q (.str (toString i)) H
  | [.str z], H, Q => Q (.str z) H
  | _, _, _ => False
theorem call_gStrX {X : Cx} : CallR X (.type "str") gStrX := by
  intro pins s σ H xs us Q I r h
  unfold gStrX at h
  split at h
  · exact call_str_int pins s σ H _ us Q I r ⟨_, rfl, h.1, h.2⟩
  · exact SkE.call_str_str pins s σ H _ us Q I r ⟨_, rfl, h⟩
  · exact h.elim
def rDictP (K : PySem.W.Frag) : List V → Hp → VK → Prop := fun xs H Q => ∃ (a : Addr) (ps : List Addr) (kvs : List (Key × V)), xs = [.ref a] ∧ SqL K H a (ps.map V.ref) ∧ Paired (fun p kv => SqT K H p [kV kv.1, kv.2]) ps kvs ∧ ∀ p, H p = none → Q (.ref p) (upd H p (.dK (mergeK [] kvs)))
theorem call_dictPK {X : Cx} {K : PySem.W.Frag} (hK : X.K = K) (hcalm : X.calm = true) : CallR X (.type "dict") (rDictP K) := by
  subst hK
  exact call_dictP hcalm
theorem ps_raiseHK {X : Cx} {W : WX} {x : Str} {pos p : Pos} {K : PySem.W.Frag} {m : Str} {j : Nat} {p2 pos2 : Pos} (hK : X.K = K) (hc : L2H.HotC X) (tk : L2.Takes X W) (h : (Fa.exc x).ok K = true) (hm : X.mg x = some (.ref (ga K x))) (hg : Gl X x) (hdb : (x == ("__debug__" : Str)) = false := by decide) :
    PS X (.Raise (some (.Call (.Name x p) [.Constant (.str m) j p2] [] pos)) none pos2) (tRaise (ga K x) W) := by
  subst hK
  obtain ⟨h1, h2, h3, h4⟩ := He.exc_ok h
  exact L2H.ps_raiseH hc tk (L2N.pmk_own PySem.F.excBase_ValueError h1 hm h2 (raises_own h3 h4) hg hdb)
end G
namespace G
open PySem PySem.Spec PySem.Calls PyProof.Rows L2 He
/-! ### defs whose errors have no context: they may be caught by a clause that raises -/
structure FnZ (P : Program) (w : World) (K : PySem.W.Frag) (mg : Str → Option Value) (base : Heap) (k : Nat) (x : Str) (ps : List Str) (sp : Sp) : Prop where
  ok : FnOk P w K mg base (L2N.CX P w) k (ga K x) (fdAt K (ga K x)) ps sp
  bd : Bnd (fdAt K (ga K x)) ps
  kp : PySem.W.keepIn K (.ref (ga K x)) = true
  at_ : mg x = some (.ref (ga K x))
theorem Told.mkFnZ {fa : List Fa} {fn : List DefD} {xl : XL} {P : Program} {w : World} {K : PySem.W.Frag} {mg : Str → Option Value} {base : Heap} (T : Told fa fn xl K mg) (i j : Nat) {d : DefD} {x : Str} {N ps : List Str} {k : Nat} {sp : Sp} (hd : fn[i]? = some d) (hx : d.at_ = (x, none)) (h0 : d.dfl = []) (h1 : d.kwd = []) (hg : fa[j]? = some (.glo x)) (S : FnScope N ps d.scope)
    (bnd : ∀ (kV doc pm : Value) (an : Option Addr) (cdv ct : Value) (us : List Value), us.length = ps.length → bindArgs (PySem.W.fnOf d.name d.qual d.params d.body d.scope .none kV doc pm an cdv ct) ⟨us, []⟩ = pure (ps.zip us))
    (len : ∀ vs H Q E, sp vs H Q E → vs.length = ps.length)
    (body : ∀ (cdv : Value) (A : Around) (outer : List Env) (s : Shared) (H : Hp) (vs : List V) (Q : VK) (E : XK), Room k (A.deeper (envOfC d.qual d.scope s.heap.objs.size (ga K x) cdv)) → sp vs H Q E →
      ∃ t, PSs (cxOf (L2N.CX P w) P w K mg base N d.qual d.scope (ga K x) cdv A outer s H E) d.body t ∧ t { nx := fun _ H' => Q .non H', rt := Q } (start N vs) H) : FnZ P w K mg base (k + 1) x ps sp := by
  obtain ⟨fd, F⟩ := T.says.def_ i hd
  have e : fAd K d.at_ = ga K x := by rw [hx]; rfl
  have e0 : d.dvs K = [] := by unfold DefD.dvs; rw [h0]; rfl
  have e1 : d.kws K = [] := by unfold DefD.kws; rw [h1]; rfl
  rw [e, e0, e1] at F
  have ef := fdAt_of F
  subst ef
  exact ⟨F.ok S len body, F.bindsA bnd, F.kp, T.glo j hg⟩
section
variable {X : Cx} {k : Nat} {x : Str} {ps : List Str} {sp : Sp} {W : WX} {p pos : Pos} {e : Expr} {es : List Expr} {t : TA}
theorem pe_fnZ (tk : L2N.Takes X W) (F : FnZ X.prog X.w X.K X.mg X.base k x ps sp) (hr : Room k X.A) (hg : Gl X x) (ha : PA X (e :: es) t) (hdb : (x == ("__debug__" : Str)) = false := by decide)
    (he : starEach (e :: es) X.env = (false, eval e X.env) :: starEach es X.env := by rfl) (hpl : (backTo pos (starEach es X.env)).any (·.1) = false := by rfl) : PE X (.Call (.Name x p) (e :: es) [] pos) (tCallW sp W t) := by
  exact pe_callS F.ok hr hg F.at_ F.kp F.bd.to (fun σ => L2N.passAt tk σ) ha hdb he hpl
end
theorem ps_raiseKZ {X : Cx} {W : WX} {x : Str} {pos p : Pos} {K : PySem.W.Frag} {m : Str} {j : Nat} {p2 pos2 : Pos} (hK : X.K = K) (hc : X.calm = true) (tk : L2N.Takes X W) (h : (Fa.exc x).ok K = true) (hm : X.mg x = some (.ref (ga K x))) (hg : Gl X x) (hdb : (x == ("__debug__" : Str)) = false := by decide) :
    PS X (.Raise (some (.Call (.Name x p) [.Constant (.str m) j p2] [] pos)) none pos2) (tRaise (ga K x) W) := by
  subst hK
  obtain ⟨h1, h2, h3, h4⟩ := He.exc_ok h
  exact L2N.ps_raise hc tk (L2N.pmk_own PySem.F.excBase_ValueError h1 hm h2 (raises_own h3 h4) hg hdb)
end G
namespace Pr
open PySem PySem.Spec PyProof.Rows L2 G
local macro_rules | `(tactic| walk_at "x") => `(tactic| try simp only [↓x_var0, ↓x_varS, ↓x_c, ↓x_op, ↓x_un, ↓x_cb, ↓x_nil, ↓x_cons, ↓x_test, ↓x_b, ↓x_ex, ↓x_and, ↓x_or, ↓x_not, ↓x_andV, ↓x_orV, ↓x_notV, ↓x_tif, ↓x_chain, ↓x_menu, ↓x_menuI, ↓x_lst, ↓x_tup, ↓x_dnew, ↓x_callW, ↓x_callN, ↓x_seq, ↓x_next, ↓x_ret, ↓x_retN, ↓x_drop, ↓x_ifS, ↓x_asg, ↓x_name, ↓x_raise, ↓x_fld, ↓x_setF, ↓x_meth, ↓x_make, ↓x_sub, ↓r_min, ↓r_max, ↓x_yes, ↓x_for, ↓x_lock, ↓x_keys, ↓x_cut, ↓x_lc, ↓x_rng1, ↓x_rng2, ↓x_lst1, ↓x_itup, ↓x_rng3, ↓x_three, ↓x_lstg, ↓x_tupg, ↓x_adrS, ↓x_one, ↓x_two, ↓x_adr, ↓x_sl, ↓x_np, ↓x_pt, ↓x_int, ↓x_bm, ↓x_bm0, ↓x_consg, ↓x_nilg, ↓x_dget2, ↓x_dget1, ↓x_dgetN, ↓x_dget, ↓x_din, ↓x_dni, ↓x_dput, ↓x_dpop2, ↓r_isB, ↓r_notB, ↓x_enum, ↓x_zip, ↓x_str, ↓x_strE, ↓r_inS, ↓r_ninS, wipe, List.map_cons, List.map_nil, ↓x_isT, ↓r_isiII, ↓r_isiBB, ↓r_isiIB, ↓r_isiSS, ↓r_neNS, ↓r_neSN, ↓r_neNN, ↓r_eqNS, ↓r_eqSN, ↓r_eqNN, ↓r_eqIS, ↓r_neIS, ↓r_neSI, ↓r_neBS, ↓r_eqBB, ↓r_neBB, ↓x_start, ↓x_K, ↓x_start0, ↓r_i0, ↓r_i, ↓r_u, ↓r_addI, ↓r_addS, ↓r_mulI, ↓r_mulS, ↓r_eqI, ↓r_neI, ↓r_eqS, ↓r_neS, ↓r_absI, ↓r_intI, ↓r_intB, List.length_cons, List.length_nil, List.replicate, List.set_cons_zero, List.set_cons_succ, decide_eq_true_eq, Bool.not_eq_true', decide_eq_false_iff_not, if_true, if_false, Bool.false_eq_true, Bool.true_eq_false, ite_true, ite_false, Bool.not_true, Bool.not_false, c_div, n_ten, c_pow, not_true_eq_false, not_false_eq_true, decide_true, decide_false, true_and, and_true, and_self, true_or, or_true, Int.reduceLT, Int.reduceLE, Int.reduceMul, Int.reduceAdd, Int.reduceSub, Int.reducePow, Int.reduceNeg, Int.reduceDiv, Int.reduceMod, Nat.reducePow, Int.reduceToNat, Int.reduceEq, Int.reduceNe, Nat.reduceLT, Nat.reduceLeDiff, Nat.reduceAdd])

/-! ## the text by places -/
def top (i : Nat) : Stmt := PySem.Challenge.pw_cellkeep_k28_programs_read.main.body.getD i (.Pass ⟨0, 0, 0, 0⟩)
abbrev s_number_of : Stmt := top 18
abbrev s_shape_of : Stmt := top 25
abbrev s_need_name : Stmt := top 26
abbrev s_need_count : Stmt := top 27
abbrev s_read_part : Stmt := top 28
abbrev s_statement_of : Stmt := top 29
abbrev s_is_block : Stmt := top 30
abbrev s_names_in : Stmt := top 31
abbrev s_names_of : Stmt := top 32
abbrev s_blocks_of : Stmt := top 33
abbrev s_program_of : Stmt := top 34
abbrev s__law_at : Stmt := top 36
abbrev s__law_whole : Stmt := top 37
abbrev s__law_name : Stmt := top 38
abbrev s__law_number : Stmt := top 39
abbrev s__law_row : Stmt := top 40
abbrev s__law_some : Stmt := top 41
abbrev s__law_lines : Stmt := top 42
abbrev s__law_wrong_word : Stmt := top 43
abbrev s__law_spoilt : Stmt := top 44
abbrev s__law_is_name : Stmt := top 45
abbrev s__law_is_number : Stmt := top 46
abbrev s__law_fits : Stmt := top 47
abbrev s__law_names : Stmt := top 48
abbrev s__law_good : Stmt := top 49
abbrev s__law_written : Stmt := top 50
abbrev s__law_refused : Stmt := top 51
abbrev s_law : Stmt := top 52
/-! ## the facts -/
def fa : List He.Fa := [.glo "KeepError", .glo "BadNumber", .glo "BadWord", .glo "BadCount", .glo "NoPlace", .glo "NoRoom", .glo "NoSlot", .glo "NoCell", .glo "NoHand", .glo "NothingHeld", .glo "NoName", .glo "NoDeed", .glo "NoImage", .glo "NoProgram", .glo "number_of", .glo "shape_of", .glo "need_name", .glo "need_count", .glo "read_part", .glo "statement_of", .glo "is_block", .glo "names_in", .glo "names_of", .glo "blocks_of", .glo "program_of", .glo "_law_at", .glo "_law_whole", .glo "_law_name", .glo "_law_number", .glo "_law_row", .glo "_law_some", .glo "_law_lines", .glo "_law_wrong_word", .glo "_law_spoilt", .glo "_law_is_name", .glo "_law_is_number", .glo "_law_fits", .glo "_law_names", .glo "_law_good", .glo "_law_written", .glo "_law_refused", .glo "law", .str "FIGURES" "0123456789", .int "MOST_FIGURES" (60), .str "LETTERS" "abcdefghijklmnopqrstuvwxyz", .int "MOST_SIGNS" (8), .int "MOST_NAMES" (42), .int "MOST_TURNS" (9), .int "MOST_DEPTH" (3), .free "isinstance", .free "len", .free "range", .free "zip", .free "int", .free "bool", .free "str", .free "list", .free "tuple", .free "dict", .free "ValueError", .exc "KeepError", .exc "BadNumber", .exc "BadWord", .exc "BadCount", .exc "NoPlace", .exc "NoRoom", .exc "NoSlot", .exc "NoCell", .exc "NoHand", .exc "NothingHeld", .exc "NoName", .exc "NoDeed", .exc "NoImage", .exc "NoProgram"]
def d_number_of : He.DefD := ⟨("number_of", none), "number_of", "number_of", defArgs s_number_of, defBody s_number_of, defScope s_number_of, [], []⟩
def d_shape_of : He.DefD := ⟨("shape_of", none), "shape_of", "shape_of", defArgs s_shape_of, defBody s_shape_of, defScope s_shape_of, [], []⟩
def d_need_name : He.DefD := ⟨("need_name", none), "need_name", "need_name", defArgs s_need_name, defBody s_need_name, defScope s_need_name, [], []⟩
def d_need_count : He.DefD := ⟨("need_count", none), "need_count", "need_count", defArgs s_need_count, defBody s_need_count, defScope s_need_count, [], []⟩
def d_read_part : He.DefD := ⟨("read_part", none), "read_part", "read_part", defArgs s_read_part, defBody s_read_part, defScope s_read_part, [], []⟩
def d_statement_of : He.DefD := ⟨("statement_of", none), "statement_of", "statement_of", defArgs s_statement_of, defBody s_statement_of, defScope s_statement_of, [], []⟩
def d_is_block : He.DefD := ⟨("is_block", none), "is_block", "is_block", defArgs s_is_block, defBody s_is_block, defScope s_is_block, [], []⟩
def d_names_in : He.DefD := ⟨("names_in", none), "names_in", "names_in", defArgs s_names_in, defBody s_names_in, defScope s_names_in, [], []⟩
def d_names_of : He.DefD := ⟨("names_of", none), "names_of", "names_of", defArgs s_names_of, defBody s_names_of, defScope s_names_of, [], []⟩
def d_blocks_of : He.DefD := ⟨("blocks_of", none), "blocks_of", "blocks_of", defArgs s_blocks_of, defBody s_blocks_of, defScope s_blocks_of, [], []⟩
def d_program_of : He.DefD := ⟨("program_of", none), "program_of", "program_of", defArgs s_program_of, defBody s_program_of, defScope s_program_of, [], []⟩
def d__law_at : He.DefD := ⟨("_law_at", none), "_law_at", "_law_at", defArgs s__law_at, defBody s__law_at, defScope s__law_at, [], []⟩
def d__law_whole : He.DefD := ⟨("_law_whole", none), "_law_whole", "_law_whole", defArgs s__law_whole, defBody s__law_whole, defScope s__law_whole, [], []⟩
def d__law_name : He.DefD := ⟨("_law_name", none), "_law_name", "_law_name", defArgs s__law_name, defBody s__law_name, defScope s__law_name, [], []⟩
def d__law_number : He.DefD := ⟨("_law_number", none), "_law_number", "_law_number", defArgs s__law_number, defBody s__law_number, defScope s__law_number, [], []⟩
def d__law_row : He.DefD := ⟨("_law_row", none), "_law_row", "_law_row", defArgs s__law_row, defBody s__law_row, defScope s__law_row, [], []⟩
def d__law_some : He.DefD := ⟨("_law_some", none), "_law_some", "_law_some", defArgs s__law_some, defBody s__law_some, defScope s__law_some, [], []⟩
def d__law_lines : He.DefD := ⟨("_law_lines", none), "_law_lines", "_law_lines", defArgs s__law_lines, defBody s__law_lines, defScope s__law_lines, [], []⟩
def d__law_wrong_word : He.DefD := ⟨("_law_wrong_word", none), "_law_wrong_word", "_law_wrong_word", defArgs s__law_wrong_word, defBody s__law_wrong_word, defScope s__law_wrong_word, [], []⟩
def d__law_spoilt : He.DefD := ⟨("_law_spoilt", none), "_law_spoilt", "_law_spoilt", defArgs s__law_spoilt, defBody s__law_spoilt, defScope s__law_spoilt, [], []⟩
def d__law_is_name : He.DefD := ⟨("_law_is_name", none), "_law_is_name", "_law_is_name", defArgs s__law_is_name, defBody s__law_is_name, defScope s__law_is_name, [], []⟩
def d__law_is_number : He.DefD := ⟨("_law_is_number", none), "_law_is_number", "_law_is_number", defArgs s__law_is_number, defBody s__law_is_number, defScope s__law_is_number, [], []⟩
def d__law_fits : He.DefD := ⟨("_law_fits", none), "_law_fits", "_law_fits", defArgs s__law_fits, defBody s__law_fits, defScope s__law_fits, [], []⟩
def d__law_names : He.DefD := ⟨("_law_names", none), "_law_names", "_law_names", defArgs s__law_names, defBody s__law_names, defScope s__law_names, [], []⟩
def d__law_good : He.DefD := ⟨("_law_good", none), "_law_good", "_law_good", defArgs s__law_good, defBody s__law_good, defScope s__law_good, [], []⟩
def d__law_written : He.DefD := ⟨("_law_written", none), "_law_written", "_law_written", defArgs s__law_written, defBody s__law_written, defScope s__law_written, [], []⟩
def d__law_refused : He.DefD := ⟨("_law_refused", none), "_law_refused", "_law_refused", defArgs s__law_refused, defBody s__law_refused, defScope s__law_refused, [], []⟩
def d_law : He.DefD := ⟨("law", none), "law", "law", defArgs s_law, defBody s_law, defScope s_law, [], []⟩
def fn : List He.DefD := [d_number_of, d_shape_of, d_need_name, d_need_count, d_read_part, d_statement_of, d_is_block, d_names_in, d_names_of, d_blocks_of, d_program_of, d__law_at, d__law_whole, d__law_name, d__law_number, d__law_row, d__law_some, d__law_lines, d__law_wrong_word, d__law_spoilt, d__law_is_name, d__law_is_number, d__law_fits, d__law_names, d__law_good, d__law_written, d__law_refused, d_law]
def exL : XL := ⟨["KeepError", "BadNumber", "BadWord", "BadCount", "NoPlace", "NoRoom", "NoSlot", "NoCell", "NoHand", "NothingHeld", "NoName", "NoDeed", "NoImage", "NoProgram"], []⟩
abbrev Tx (K : PySem.W.Frag) (mg : Str → Option Value) : Prop := Told fa fn exL K mg
theorem sc_number_of : FnScope ["part", "figures", "sign"] ["part"] (defScope s_number_of) := ⟨rfl, rfl, rfl, by decide +kernel, rfl, by decide +kernel, by decide +kernel⟩
theorem sc_shape_of : FnScope ["word"] ["word"] (defScope s_shape_of) := ⟨rfl, rfl, rfl, by decide +kernel, rfl, by decide +kernel, by decide +kernel⟩
theorem sc_need_name : FnScope ["part", "sign"] ["part"] (defScope s_need_name) := ⟨rfl, rfl, rfl, by decide +kernel, rfl, by decide +kernel, by decide +kernel⟩
theorem sc_need_count : FnScope ["part"] ["part"] (defScope s_need_count) := ⟨rfl, rfl, rfl, by decide +kernel, rfl, by decide +kernel, by decide +kernel⟩
theorem sc_read_part : FnScope ["part", "sort", "number"] ["part", "sort"] (defScope s_read_part) := ⟨rfl, rfl, rfl, by decide +kernel, rfl, by decide +kernel, by decide +kernel⟩
theorem sc_statement_of : FnScope ["line", "parts", "shape", "part", "sort"] ["line"] (defScope s_statement_of) := ⟨rfl, rfl, rfl, by decide +kernel, rfl, by decide +kernel, by decide +kernel⟩
theorem sc_is_block : FnScope ["statement"] ["statement"] (defScope s_is_block) := ⟨rfl, rfl, rfl, by decide +kernel, rfl, by decide +kernel, by decide +kernel⟩
theorem sc_names_in : FnScope ["statement", "shape", "part", "sort"] ["statement"] (defScope s_names_in) := ⟨rfl, rfl, rfl, by decide +kernel, rfl, by decide +kernel, by decide +kernel⟩
theorem sc_names_of : FnScope ["program", "found", "statement", "some", "name"] ["program"] (defScope s_names_of) := ⟨rfl, rfl, rfl, by decide +kernel, rfl, by decide +kernel, by decide +kernel⟩
theorem sc_blocks_of : FnScope ["lines", "heads", "rows", "line", "statement", "inner"] ["lines"] (defScope s_blocks_of) := ⟨rfl, rfl, rfl, by decide +kernel, rfl, by decide +kernel, by decide +kernel⟩
theorem sc_program_of : FnScope ["text", "program"] ["text"] (defScope s_program_of) := ⟨rfl, rfl, rfl, by decide +kernel, rfl, by decide +kernel, by decide +kernel⟩
theorem sc__law_at : FnScope ["_law_script", "_law_k"] ["_law_script", "_law_k"] (defScope s__law_at) := ⟨rfl, rfl, rfl, by decide +kernel, rfl, by decide +kernel, by decide +kernel⟩
theorem sc__law_whole : FnScope ["_law_found"] ["_law_found"] (defScope s__law_whole) := ⟨rfl, rfl, rfl, by decide +kernel, rfl, by decide +kernel, by decide +kernel⟩
theorem sc__law_name : FnScope ["_law_cell", "_law_k", "_law_letters", "_law_size", "_law_at_here", "_law_turn", "_law_rest", "_law_j"] ["_law_cell", "_law_k"] (defScope s__law_name) := ⟨rfl, rfl, rfl, by decide +kernel, rfl, by decide +kernel, by decide +kernel⟩
theorem sc__law_number : FnScope ["_law_cell", "_law_far"] ["_law_cell"] (defScope s__law_number) := ⟨rfl, rfl, rfl, by decide +kernel, rfl, by decide +kernel, by decide +kernel⟩
theorem sc__law_row : FnScope ["_law_base", "_law_cell", "_law_one", "_law_other", "_law_number_here", "_law_words"] ["_law_base", "_law_cell"] (defScope s__law_row) := ⟨rfl, rfl, rfl, by decide +kernel, rfl, by decide +kernel, by decide +kernel⟩
theorem sc__law_some : FnScope ["_law_script", "_law_most", "_law_base", "_law_lines_here", "_law_deep", "_law_k", "_law_cell", "_law_row_here"] ["_law_script", "_law_most"] (defScope s__law_some) := ⟨rfl, rfl, rfl, by decide +kernel, rfl, by decide +kernel, by decide +kernel⟩
theorem sc__law_lines : FnScope ["_law_script", "_law_way", "_law_more", "_law_lines_here", "_law_k"] ["_law_script"] (defScope s__law_lines) := ⟨rfl, rfl, rfl, by decide +kernel, rfl, by decide +kernel, by decide +kernel⟩
theorem sc__law_wrong_word : FnScope ["_law_word", "_law_cell", "_law_odd", "_law_more", "_law_signs", "_law_at_here"] ["_law_word", "_law_cell"] (defScope s__law_wrong_word) := ⟨rfl, rfl, rfl, by decide +kernel, rfl, by decide +kernel, by decide +kernel⟩
theorem sc__law_spoilt : FnScope ["_law_lines_here", "_law_cell", "_law_at_here", "_law_more", "_law_spot", "_law_own", "_law_words", "_law_k"] ["_law_lines_here", "_law_cell"] (defScope s__law_spoilt) := ⟨rfl, rfl, rfl, by decide +kernel, rfl, by decide +kernel, by decide +kernel⟩
theorem sc__law_is_name : FnScope ["_law_word", "_law_strange", "_law_sign", "_law_own"] ["_law_word"] (defScope s__law_is_name) := ⟨rfl, rfl, rfl, by decide +kernel, rfl, by decide +kernel, by decide +kernel⟩
theorem sc__law_is_number : FnScope ["_law_word", "_law_figures", "_law_sign"] ["_law_word"] (defScope s__law_is_number) := ⟨rfl, rfl, rfl, by decide +kernel, rfl, by decide +kernel, by decide +kernel⟩
theorem sc__law_fits : FnScope ["_law_line", "_law_words", "_law_names_here", "_law_sizes", "_law_own", "_law_rest", "_law_many", "_law_word"] ["_law_line"] (defScope s__law_fits) := ⟨rfl, rfl, rfl, by decide +kernel, rfl, by decide +kernel, by decide +kernel⟩
theorem sc__law_names : FnScope ["_law_lines_here", "_law_found", "_law_line", "_law_words", "_law_k"] ["_law_lines_here"] (defScope s__law_names) := ⟨rfl, rfl, rfl, by decide +kernel, rfl, by decide +kernel, by decide +kernel⟩
theorem sc__law_good : FnScope ["_law_lines_here", "_law_deep", "_law_line"] ["_law_lines_here"] (defScope s__law_good) := ⟨rfl, rfl, rfl, by decide +kernel, rfl, by decide +kernel, by decide +kernel⟩
theorem sc__law_written : FnScope ["_law_program", "_law_lines_here", "_law_row_here", "_law_parts", "_law_inner", "_law_part"] ["_law_program"] (defScope s__law_written) := ⟨rfl, rfl, rfl, by decide +kernel, rfl, by decide +kernel, by decide +kernel⟩
theorem sc__law_refused : FnScope ["_law_thing", "e", "_law_others"] ["_law_thing"] (defScope s__law_refused) := ⟨rfl, rfl, rfl, by decide +kernel, rfl, by decide +kernel, by decide +kernel⟩
theorem sc_law : FnScope ["_law_script", "_law_lines_here", "_law_text", "_law_found", "_law_names_here", "_law_again", "_law_more"] ["_law_script"] (defScope s_law) := ⟨rfl, rfl, rfl, by decide +kernel, rfl, by decide +kernel, by decide +kernel⟩

/-! ## the head and the end -/
abbrev RR : PySem.W.OpenRow := PySem.W.OpenLaw.row PySem.Challenge.rw_cellkeep_k28_programs_read
abbrev hk : PySem.W.Hook := hookG 6 fa fn exL
def ob (s : PySem.W.SharedT) : He.AlD × Bool := lookG 6 fa fn exL (HandSHeadRun.getT s)
theorem ob_eq (s : PySem.W.SharedT) : ob s = hk.obs s.abs := lookG_eq (HandSHeadRun.getT_eq s)
def loose : List Str := (["KeepError", "BadNumber", "BadWord", "BadCount", "NoPlace", "NoRoom", "NoSlot", "NoCell", "NoHand", "NothingHeld", "NoName", "NoDeed", "NoImage", "NoProgram", "FIGURES", "MOST_FIGURES", "number_of", "LETTERS", "MOST_SIGNS", "MOST_NAMES", "MOST_TURNS", "MOST_DEPTH", "shape_of", "need_name", "need_count", "read_part", "statement_of", "is_block", "names_in", "names_of"] : List Str) ++ (["blocks_of", "program_of", "_law_at", "_law_whole", "_law_name", "_law_number", "_law_row", "_law_some", "_law_lines", "_law_wrong_word", "_law_spoilt", "_law_is_name", "_law_is_number", "_law_fits", "_law_names", "_law_good", "_law_written", "_law_refused"] : List Str)
theorem run (w : World) : HandSHeadRun.RunEq RR (PySem.W.view RR.prog [52]) hk ob 16000 loose w := by
  intro os
  kernel_rfl

/-! ## whole numbers, and what is none -/
/-- a plain thing that is no whole number -/
def Odd (H : Hp) (v : V) : Prop := ∃ t, tyOf v H = some t ∧ t ≠ "int"
theorem odd_not {H : Hp} {n : Int} : ¬ Odd H (.int n) := fun ⟨t, e, h⟩ => h (Option.some.inj e).symm
theorem odd_bl {H : Hp} {b : Bool} : Odd H (.bl b) := ⟨"bool", rfl, by decide⟩
theorem odd_non {H : Hp} : Odd H .non := ⟨"NoneType", rfl, by decide⟩
theorem odd_str {H : Hp} {z : Str} : Odd H (.str z) := ⟨"str", rfl, by decide⟩
theorem odd_lst {H : Hp} {a : Addr} {xs : List V} (h : H a = some (.lst xs)) : Odd H (.ref a) := ⟨"list", by show tyO (H a) = _; rw [h]; rfl, by decide⟩
theorem odd_tup {H : Hp} {a : Addr} {xs : List V} (h : H a = some (.tup xs)) : Odd H (.ref a) := ⟨"tuple", by show tyO (H a) = _; rw [h]; rfl, by decide⟩
theorem odd_dK {H : Hp} {a : Addr} {kvs : List (Key × V)} (h : H a = some (.dK kvs)) : Odd H (.ref a) := ⟨"dict", by show tyO (H a) = _; rw [h]; rfl, by decide⟩
abbrev Ex (K : PySem.W.Frag) (x : Str) : Value := .ref (He.ga K x)
def sp_is_whole : Sp
  | [.int _], H, Q, _ => Q (.bl true) H
  | [v], H, Q, _ => Odd H v ∧ Q (.bl false) H
  | _, _, _, _ => False
theorem len_is_whole {vs H Q E} (h : sp_is_whole vs H Q E) : vs.length = 1 := by unfold sp_is_whole at h; split at h <;> first | rfl | exact h.elim
theorem odd_whole {H : Hp} {v : V} {Q : VK} {E : XK} (h : Odd H v) : sp_is_whole [v] H Q E = Q (.bl false) H := by
  cases v with
  | int n => exact (odd_not h).elim
  | _ => exact propext ⟨fun z => z.2, fun z => ⟨h, z⟩⟩
theorem x_whole {H : Hp} {n : Int} {Q : VK} {E : XK} : sp_is_whole [.int n] H Q E = Q (.bl true) H := rfl
/-- the two questions of is_whole -/
theorem whole_odd {H : Hp} {v : V} {Q : VK} (h : Odd H v) (q : Q (.bl false) H) : gIsi [v, .ty "int"] H fun x H1 => ∃ c, x = .bl c ∧ if c = true then gIsi [v, .ty "bool"] H1 (fun x H2 => ∃ c, x = .bl c ∧ Q (.bl (!c)) H2) else Q (.bl false) H1 := by
  obtain ⟨t, e, ne⟩ := h
  refine ⟨by decide, t, e, _, rfl, ?_⟩
  have m := tyOf_in e
  split
  · rename_i c
    have tb : t = "bool" := by
      simp only [tys, List.mem_cons, List.not_mem_nil, or_false] at m
      rcases m with rfl | rfl | rfl | rfl | rfl | rfl | rfl
      · exact absurd c (by decide)
      · rfl
      · exact absurd rfl ne
      · exact absurd c (by decide)
      · exact absurd c (by decide)
      · exact absurd c (by decide)
      · exact absurd c (by decide)
    subst tb
    exact ⟨by decide, _, e, _, rfl, q⟩
  · exact q
theorem whole_int {H : Hp} {n : Int} {Q : VK} (q : Q (.bl true) H) : gIsi [.int n, .ty "int"] H fun x H1 => ∃ c, x = .bl c ∧ if c = true then gIsi [.int n, .ty "bool"] H1 (fun x H2 => ∃ c, x = .bl c ∧ Q (.bl (!c)) H2) else Q (.bl false) H1 :=
  ⟨by decide, _, rfl, _, rfl, by rw [if_pos (by decide)]; exact ⟨by decide, _, rfl, _, rfl, q⟩⟩
local macro_rules | `(tactic| walk_at "w") => `(tactic| try simp only [↓x_var0, ↓x_varS, ↓x_c, ↓x_op, ↓x_un, ↓x_cb, ↓x_nil, ↓x_cons, ↓x_test, ↓x_b, ↓x_ex, ↓x_and, ↓x_or, ↓x_not, ↓x_andV, ↓x_orV, ↓x_notV, ↓x_tif, ↓x_chain, ↓x_menu, ↓x_menuI, ↓x_lst, ↓x_tup, ↓x_dnew, ↓x_callW, ↓x_callN, ↓x_seq, ↓x_next, ↓x_ret, ↓x_retN, ↓x_drop, ↓x_ifS, ↓x_asg, ↓x_name, ↓x_raise, ↓x_fld, ↓x_setF, ↓x_meth, ↓x_make, ↓x_sub, ↓r_min, ↓r_max, ↓x_yes, ↓x_for, ↓x_lock, ↓x_keys, ↓x_cut, ↓x_lc, ↓x_rng1, ↓x_rng2, ↓x_lst1, ↓x_itup, ↓x_rng3, ↓x_three, ↓x_lstg, ↓x_tupg, ↓x_adrS, ↓x_one, ↓x_two, ↓x_adr, ↓x_sl, ↓x_np, ↓x_pt, ↓x_int, ↓x_bm, ↓x_bm0, ↓x_consg, ↓x_nilg, ↓x_dget2, ↓x_dget1, ↓x_dgetN, ↓x_dget, ↓x_din, ↓x_dni, ↓x_dput, ↓x_dpop2, ↓r_isB, ↓r_notB, ↓x_enum, ↓x_zip, ↓x_str, ↓x_strE, ↓r_inS, ↓r_ninS, wipe, List.map_cons, List.map_nil, ↓x_isT, ↓r_isiII, ↓r_isiBB, ↓r_isiIB, ↓r_isiSS, ↓r_neNS, ↓r_neSN, ↓r_neNN, ↓r_eqNS, ↓r_eqSN, ↓r_eqNN, ↓r_eqIS, ↓r_neIS, ↓r_neSI, ↓r_neBS, ↓r_eqBB, ↓r_neBB, ↓x_start, ↓x_K, ↓x_start0, ↓r_i0, ↓r_i, ↓r_u, ↓r_addI, ↓r_addS, ↓r_mulI, ↓r_mulS, ↓r_eqI, ↓r_neI, ↓r_eqS, ↓r_neS, ↓r_absI, ↓r_intI, ↓r_intB, List.length_cons, List.length_nil, List.replicate, List.set_cons_zero, List.set_cons_succ, decide_eq_true_eq, Bool.not_eq_true', decide_eq_false_iff_not, if_true, if_false, Bool.false_eq_true, Bool.true_eq_false, ite_true, ite_false, Bool.not_true, Bool.not_false, c_div, n_ten, c_pow, not_true_eq_false, not_false_eq_true, decide_true, decide_false, true_and, and_true, and_self, true_or, or_true, Int.reduceLT, Int.reduceLE, Int.reduceMul, Int.reduceAdd, Int.reduceSub, Int.reducePow, Int.reduceNeg, Int.reduceDiv, Int.reduceMod, Nat.reducePow, Int.reduceToNat, Int.reduceEq, Int.reduceNe, Nat.reduceLT, Nat.reduceLeDiff, Nat.reduceAdd, ↓x_whole])
theorem SgL_at {ps : List (List Nat)} {i : Nat} {p : List Nat} (h : ps[i]? = some p) : (SgL ps)[i]? = some (V.str (Sg p)) := by
  unfold SgL
  rw [List.getElem?_map, h]
  rfl
theorem SgL_mem {ps : List (List Nat)} {i : Nat} {x : V} (h : (SgL ps)[i]? = some x) : ∃ p, ps[i]? = some p ∧ x = V.str (Sg p) := by
  unfold SgL at h
  rw [List.getElem?_map] at h
  cases e : ps[i]? with
  | none => rw [e] at h; cases h
  | some p => rw [e] at h; cases h; exact ⟨p, rfl, rfl⟩
theorem SgL_len {ps : List (List Nat)} : (SgL ps).length = ps.length := List.length_map ..
theorem SgL_flat {ps : List (List Nat)} : (SgL ps).all flatV = true := List.all_eq_true.mpr fun x m => by
  obtain ⟨p, -, rfl⟩ := List.mem_map.mp m
  rfl

/-! ## the script's cells, lists that are read -/
def cell (ns : List Int) (j : Int) : Int := ns.getD j.toNat 0
theorem same_new {H : Hp} {p : Addr} {o : HO} (h : H p = none) : Same H (upd H p o) := fun b u e => by
  rw [upd_ne (ne_of_none e h)]
  exact e
theorem ite_and {P Q A B : Prop} [Decidable P] [Decidable Q] (h1 : P → Q → A) (h2 : ¬ (P ∧ Q) → B) : if P then (if Q then A else B) else B := by
  split
  · split
    · exact h1 ‹_› ‹_›
    · exact h2 fun z => absurd z.2 ‹_›
  · exact h2 fun z => absurd z.1 ‹_›
theorem ite_or {P Q A B : Prop} [Decidable P] [Decidable Q] (h1 : P ∨ Q → A) (h2 : ¬ P → ¬ Q → B) : if P then A else if Q then A else B := by
  split
  · exact h1 (.inl ‹_›)
  · split
    · exact h1 (.inr ‹_›)
    · exact h2 ‹_› ‹_›
/-- a new instance; its first deed -/
theorem same_mk {H : Hp} {x dx C : Addr} (nx : H x = none) (ndx : H dx = none) (ne : dx ≠ x) : Same H (upd (upd H dx (.own x)) x (.ins C dx [])) := (same_new ndx).trans (same_new (by rw [upd_ne ne.symm]; exact nx))
theorem same_init {H H' : Hp} {x dx C : Addr} (nx : H x = none) (ndx : H dx = none) (ne : dx ≠ x) (k : ∀ c o, c ≠ x → upd (upd H dx (.own x)) x (.ins C dx []) c = some o → H' c = some o) : Same H H' := fun c o e => k c o (ne_of_none e nx) (same_mk nx ndx ne c o e)
theorem cut_ints (ns : List Int) (lo hi : Option Int) : ∃ cs : List Int, cutV (ns.map V.int) lo hi = cs.map V.int := ⟨(ns.drop (HT.sIx ns.length 0 lo)).take (HT.sIx ns.length ns.length hi - HT.sIx ns.length 0 lo), by unfold cutV; rw [List.length_map, List.map_take, List.map_drop]⟩
def placeOf (n : Nat) : V → Option Nat
  | .int i => if 0 ≤ i ∧ i < n then some i.toNat else none
  | _ => none
theorem placeOf_int {n : Nat} {i : Int} : placeOf n (.int i) = if 0 ≤ i ∧ i < n then some i.toNat else none := rfl
theorem placeOf_odd {H : Hp} {n : Nat} {v : V} (h : Odd H v) : placeOf n v = none := by
  cases v with
  | int i => exact (odd_not h).elim
  | _ => rfl
theorem placeOf_some {n : Nat} {v : V} {i : Nat} (h : placeOf n v = some i) : v = .int (i : Int) ∧ i < n := by
  cases v with
  | int j =>
    rw [placeOf_int] at h
    split at h
    · rename_i c
      have e := Option.some.inj h
      exact ⟨by rw [← e]; congr 1; omega, by omega⟩
    · cases h
  | _ => cases h
def placeW : V → Option Int
  | .int n => if 0 ≤ n ∧ n ≤ 9999 then some n else none
  | _ => none
theorem placeW_int {n : Int} : placeW (.int n) = if 0 ≤ n ∧ n ≤ 9999 then some n else none := rfl
theorem placeW_odd {H : Hp} {v : V} (h : Odd H v) : placeW v = none := by
  cases v with
  | int i => exact (odd_not h).elim
  | _ => rfl
theorem placeW_some {v : V} {n : Int} (h : placeW v = some n) : v = .int n ∧ 0 ≤ n ∧ n ≤ 9999 := by
  cases v with
  | int j =>
    rw [placeW_int] at h
    split at h
    · rename_i c
      cases h
      exact ⟨rfl, c⟩
    · cases h
  | _ => cases h
theorem all_flat {ws : List Int} : (ws.map V.int).all flatV = true := by
  rw [List.all_map]
  exact List.all_eq_true.mpr fun _ _ => rfl
theorem in_ints {n : Int} {ws : List Int} : inV (.int n) (ws.map V.int) = decide (n ∈ ws) := by
  unfold inV
  rw [List.any_map]
  by_cases c : n ∈ ws
  · rw [decide_eq_true c]
    exact List.any_eq_true.mpr ⟨n, c, beq_self_eq_true n⟩
  · rw [decide_eq_false c]
    refine List.any_eq_false.mpr fun x hx e => c ?_
    have e2 : x = n := eq_of_beq e
    exact e2 ▸ hx
theorem none_of {H H' : Hp} {a : Addr} (s : Same H H') (h : H' a = none) : H a = none := by
  cases e : H a with
  | none => rfl
  | some o =>
    rw [s a o e] at h
    cases h
/-- a list that grows -/
theorem r_app {K : PySem.W.Frag} {H : Hp} {l : Addr} {xs : List V} {y : V} {Q : VK} (h : H l = some (.lst xs)) (hn : xs.length < sizeLine) (q : Q .non (upd H l (.lst (xs ++ [y])))) : tyV K "list" (.ref l) H ∧ rAppend (.ref l) [y] H Q := ⟨.inl ⟨rfl, _, .of h⟩, l, xs, y, rfl, rfl, h, hn, q⟩
theorem ty_lst {K : PySem.W.Frag} {H : Hp} {l : Addr} {xs : List V} (h : H l = some (.lst xs)) : tyV K "list" (.ref l) H := .inl ⟨rfl, _, .of h⟩
theorem same_tyOf {H H' : Hp} {v : V} {t : String} (s : Same H H') (h : tyOf v H = some t) : tyOf v H' = some t := by
  cases v with
  | ref a =>
    have h1 : tyO (H a) = some t := h
    cases e : H a with
    | none =>
      rw [e] at h1
      cases h1
    | some o =>
      rw [e] at h1
      show tyO (H' a) = some t
      rw [s a o e]
      exact h1
  | _ => exact h
theorem odd_same {H H' : Hp} {v : V} (s : Same H H') (h : Odd H v) : Odd H' v := h.elim fun t q => ⟨t, same_tyOf s q.1, q.2⟩
def Thing (H : Hp) (v : V) : Prop := (∃ n, v = .int n) ∨ Odd H v
theorem thing_same {H H' : Hp} {v : V} (s : Same H H') (h : Thing H v) : Thing H' v := h.imp id (odd_same s)
theorem thing_upd {H : Hp} {a : Addr} {o o' : HO} {v : V} (e : H a = some o) (q : tyO (some o) = tyO (some o')) (h : Thing H v) : Thing (upd H a o') v := h.imp id fun ⟨t, g, ne⟩ => ⟨t, by
  cases v with
  | ref b =>
    have h1 : tyO (H b) = some t := g
    show tyO (upd H a o' b) = some t
    by_cases c : b = a
    · subst c
      rw [upd_same, ← q, ← e]
      exact h1
    · rw [upd_ne c]
      exact h1
  | _ => exact g, ne⟩
theorem r_lenS {K : PySem.W.Frag} {H : Hp} {a : Addr} {xs : List V} {Q : VK} (h : SqL K H a xs) (q : Q (.int (xs.length : Int)) H) : L2.rLen K [.ref a] H Q := ⟨_, _, rfl, .inl ⟨_, h, rfl⟩, q⟩
theorem r_ixS {K : PySem.W.Frag} {H : Hp} {a : Addr} {xs : List V} {i : Int} {v : V} {Q : VK} (h : SqL K H a xs) (e : atI xs i = some v) (q : Q v H) : rIx K (.ref a) (.int i) H Q := .inl ⟨_, _, _, _, rfl, rfl, h, e, q⟩
theorem at_pos {α : Type} {xs : List α} {i : Int} {v : α} (h : 0 ≤ i) (e : xs[i.toNat]? = some v) : atI xs i = some v := by
  have hl := (List.getElem?_eq_some_iff.mp e).1
  unfold atI ixN
  rw [if_pos h, if_pos (by omega)]
  exact e
theorem menu_pick {xs : List V} {i : Int} {P : V → Prop} (Good : V → Prop) (h : ∃ v, atI xs i = some v ∧ Good v) (k : ∀ v, Good v → P v) : ∃ v, atI xs i = some v ∧ P v := h.elim fun v q => ⟨v, q.1, k v q.2⟩
theorem cut_int {ns : List Int} {lo hi : Option Int} {i : Nat} {x : V} (h : (cutV (ns.map V.int) lo hi)[i]? = some x) : ∃ c, x = .int c := by
  have m := List.mem_of_getElem? h
  unfold cutV at m
  have m2 := List.mem_of_mem_drop (List.mem_of_mem_take m)
  obtain ⟨c, -, e⟩ := List.mem_map.mp m2
  exact ⟨c, e.symm⟩
theorem sIx_pos {n d : Nat} {v : Int} (h : 0 ≤ v) : HT.sIx n d (some v) = min v.toNat n := by
  show (if v < 0 then (v + (n : Int)).toNat else min v.toNat n) = _
  rw [if_neg (by omega)]
theorem cut_len {xs : List V} {a b : Int} (h0 : 0 ≤ a) (h1 : a ≤ b) : (cutV xs (some a) (some b)).length ≤ (b - a).toNat := by
  unfold cutV
  rw [List.length_take, List.length_drop]
  rw [sIx_pos h0, sIx_pos (by omega)]
  omega
def sp_cell (K : PySem.W.Frag) : Sp := fun vs H Q _ => ∃ a j ns, vs = [.ref a, .int j] ∧ SqL K H a (ns.map V.int) ∧ 0 ≤ j ∧ Q (.int (cell ns j)) H
section
variable {P : Program} {w : World} {K : PySem.W.Frag} {mg : Str → Option Value} {base : Heap}
theorem f__law_at (T : Tx K mg) : Fn P w K mg base 1 "_law_at" ["_law_script", "_law_k"] (sp_cell K) := by
  refine T.mkFn 11 25 (d := d__law_at) (N := ["_law_script", "_law_k"]) (k := 0) rfl rfl rfl rfl rfl sc__law_at (fun _ _ _ _ _ _ us hl => match us, hl with | [_, _], _ => rfl) (fun vs H Q E h => ?len) (fun cdv A outer s H vs Q E hr h => ⟨_,
      (pss_cons (ps_if (pt_cmpR op_lt (pv 1) (pe_callB (call_lenK (K := K) rfl) (by rfl) (T.free 50) PySem.boot_len (pa_cons (pv 0) pa_nil)) (nomark _)) (pss_one (ps_ret (pe_ix (ix_seqK (K := K) rfl) (pv 0) (pv 1) (fun _ _ => rfl)))) pss_nil)
        (pss_one (ps_ret pe_int))), ?rd⟩)
  case len => obtain ⟨a, j, ns, rfl, _⟩ := h; rfl
  case rd =>
    obtain ⟨a, j, ns, rfl, hS, h0, q⟩ := h
    walk_at "x"
    refine r_lenS hS ?_
    walk_at "x"
    rw [List.length_map]
    unfold cell at q
    split
    · rename_i c
      have e : ns[j.toNat]? = some ns[j.toNat] := List.getElem?_eq_getElem (by omega)
      rw [List.getD_eq_getElem?_getD, e] at q
      exact r_ixS hS (at_pos h0 (by rw [List.getElem?_map, e]; rfl)) q
    · rw [List.getD_eq_getElem?_getD, List.getElem?_eq_none (by omega)] at q
      exact q
theorem f__law_whole (T : Tx K mg) : FnH P w K mg base 1 "_law_whole" ["_law_found"] (sp_is_whole) := by
  refine T.mkFnH 12 26 (d := d__law_whole) (N := ["_law_found"]) (k := 0) rfl rfl rfl rfl rfl sc__law_whole (fun _ _ _ _ _ _ us hl => match us, hl with | [_], _ => rfl) (fun vs H Q E h => ?len) (fun cdv A outer s H vs Q hr h => ⟨_,
      (pss_one (ps_ret (pe_and (pe_callB call_gIsi (by rfl) (T.free 49) (by decide +kernel) (pa_cons (pv 0) (pa_cons (pe_ty (T := "int") (T.free 53) (by decide +kernel) (by rfl)) pa_nil))) (pe_one (pe_not (pe_callB call_gIsi (by rfl) (T.free 49) (by decide +kernel) (pa_cons (pv 0) (pa_cons (pe_ty (T := "bool") (T.free 54) (by decide +kernel) (by rfl)) pa_nil)))))))), ?rd⟩)
  case len => exact len_is_whole h
  case rd =>
    obtain ⟨v, rfl⟩ : ∃ v, vs = [v] := by unfold sp_is_whole at h; split at h <;> first | exact ⟨_, rfl⟩ | exact h.elim
    walk_at "x"
    cases v with
    | int n => exact whole_int h
    | _ => exact whole_odd h.1 h.2
end


/-! ## numbers as texts -/
local macro_rules | `(tactic| walk_at "wt") => `(tactic| try simp only [↓x_var0, ↓x_varS, ↓x_c, ↓x_op, ↓x_un, ↓x_cb, ↓x_nil, ↓x_cons, ↓x_test, ↓x_b, ↓x_ex, ↓x_and, ↓x_or, ↓x_not, ↓x_andV, ↓x_orV, ↓x_notV, ↓x_tif, ↓x_chain, ↓x_menu, ↓x_menuI, ↓x_lst, ↓x_tup, ↓x_dnew, ↓x_callW, ↓x_callN, ↓x_seq, ↓x_next, ↓x_ret, ↓x_retN, ↓x_drop, ↓x_ifS, ↓x_asg, ↓x_name, ↓x_raise, ↓x_fld, ↓x_setF, ↓x_meth, ↓x_make, ↓x_sub, ↓r_min, ↓r_max, ↓x_yes, ↓x_for, ↓x_lock, ↓x_keys, ↓x_cut, ↓x_lc, ↓x_rng1, ↓x_rng2, ↓x_lst1, ↓x_itup, ↓x_rng3, ↓x_three, ↓x_lstg, ↓x_tupg, ↓x_adrS, ↓x_one, ↓x_two, ↓x_adr, ↓x_sl, ↓x_np, ↓x_pt, ↓x_int, ↓x_bm, ↓x_bm0, ↓x_consg, ↓x_nilg, ↓x_dget2, ↓x_dget1, ↓x_dgetN, ↓x_dget, ↓x_din, ↓x_dni, ↓x_dput, ↓x_dpop2, ↓r_isB, ↓r_notB, ↓x_enum, ↓x_zip, ↓x_str, ↓x_strE, ↓r_inS, ↓r_ninS, wipe, List.map_cons, List.map_nil, ↓x_isT, ↓r_isiII, ↓r_isiBB, ↓r_isiIB, ↓r_isiSS, ↓r_neNS, ↓r_neSN, ↓r_neNN, ↓r_eqNS, ↓r_eqSN, ↓r_eqNN, ↓r_eqIS, ↓r_neIS, ↓r_neSI, ↓r_neBS, ↓r_eqBB, ↓r_neBB, ↓x_start, ↓x_K, ↓x_start0, ↓r_i0, ↓r_i, ↓r_u, ↓r_addI, ↓r_addS, ↓r_mulI, ↓r_mulS, ↓r_eqI, ↓r_neI, ↓r_eqS, ↓r_neS, ↓r_absI, ↓r_intI, ↓r_intB, List.length_cons, List.length_nil, List.replicate, List.set_cons_zero, List.set_cons_succ, decide_eq_true_eq, Bool.not_eq_true', decide_eq_false_iff_not, if_true, if_false, Bool.false_eq_true, Bool.true_eq_false, ite_true, ite_false, Bool.not_true, Bool.not_false, c_div, n_ten, c_pow, not_true_eq_false, not_false_eq_true, decide_true, decide_false, true_and, and_true, and_self, true_or, or_true, Int.reduceLT, Int.reduceLE, Int.reduceMul, Int.reduceAdd, Int.reduceSub, Int.reducePow, Int.reduceNeg, Int.reduceDiv, Int.reduceMod, Nat.reducePow, Int.reduceToNat, Int.reduceEq, Int.reduceNe, Nat.reduceLT, Nat.reduceLeDiff, Nat.reduceAdd, ↓x_whole, ↓r_repS])
def isDig (c : Nat) : Bool := decide (48 ≤ c ∧ c ≤ 57)
def valL (l : List Nat) : Nat := PySem.NumText.digitsVal l
def bodyP (p : List Nat) : List Nat := if p.take 1 = [45] then p.drop 1 else p
def numP (p : List Nat) : Option Int :=
  if bodyP p = [] ∨ 60 < (bodyP p).length ∨ ((bodyP p).head? = some 48 ∧ p ≠ [48]) then none
  else if (bodyP p).all isDig = true then some (if p.take 1 = [45] then -(valL (bodyP p) : Int) else (valL (bodyP p) : Int)) else none
theorem figs_tl : TL.tl ("0123456789" : Str) = [48, 49, 50, 51, 52, 53, 54, 55, 56, 57] := by decide +kernel
theorem fig_in {c : Nat} : decide (c ∈ TL.tl ("0123456789" : Str)) = isDig c := by
  rw [figs_tl]
  unfold isDig
  congr 1
  simp only [List.mem_cons, List.not_mem_nil, or_false, eq_iff_iff]
  omega
theorem fig_inP {c : Nat} : (c ∈ TL.tl ("0123456789" : Str)) = (isDig c = true) := by
  rw [← fig_in]
  exact propext ⟨decide_eq_true, of_decide_eq_true⟩
theorem body_len {p : List Nat} : (bodyP p).length ≤ p.length := by
  unfold bodyP
  split
  · rw [List.length_drop]
    omega
  · exact Nat.le_refl _
theorem bodyP_lit : Sg [45] = ("-" : Str) ∧ Sg [] = ("" : Str) ∧ Sg [48] = ("0" : Str) := ⟨by decide +kernel, by decide +kernel, by decide +kernel⟩
theorem sg_is {l m : List Nat} {z : Str} (e : Sg m = z) : (Sg l = z) = (l = m) := by rw [← e]; exact propext Sg_inj
def sp_number_of (K : PySem.W.Frag) : Sp := fun vs H Q E => ∃ p : List Nat, vs = [.str (Sg p)] ∧ p.length ≤ 1000000 ∧ match numP p with
  | none => E (Ex K "NoDeed") none H
  | some n => Q (.int n) H
theorem int_text {p : List Nat} {n : Int} (h : numP p = some n) : PySem.intText? (Sg p) = some n ∧ (Sg p).length ≤ 640 := by
  unfold numP at h
  split at h
  · cases h
  · rename_i c
    split at h
    · rename_i d
      have e := Option.some.inj h
      have ad : PySem.NumText.AllDigits (bodyP p) := fun x m => of_decide_eq_true (List.all_eq_true.mp d x m)
      have nn : bodyP p ≠ [] := fun z => c (.inl z)
      have bl : (bodyP p).length ≤ 60 := by
        have : ¬ 60 < (bodyP p).length := fun z => c (.inr (.inl z))
        omega
      by_cases m : p.take 1 = [45]
      · have eb : bodyP p = p.drop 1 := if_pos m
        have ep : p = 45 :: bodyP p := by rw [eb, ← List.take_append_drop 1 p, m]; rfl
        have el : p.length = (bodyP p).length + 1 := by conv => lhs; rw [ep]
                                                        rfl
        rw [if_pos m] at e
        refine ⟨?_, by rw [Sg_len]; omega⟩
        rw [← e]
        exact PySem.intText_neg ep ad nn (by rw [Sg_len]; omega)
      · have eb : bodyP p = p := if_neg m
        rw [if_neg m] at e
        rw [eb] at ad nn bl e
        refine ⟨?_, by rw [Sg_len]; omega⟩
        rw [← e]
        exact PySem.intText_digits (x := Sg p) ad nn (by rw [Sg_len]; omega)
    · cases h
section
variable {P : Program} {w : World} {K : PySem.W.Frag} {mg : Str → Option Value} {base : Heap}
theorem f_number_of (T : Tx K mg) : Fn P w K mg base 1 "number_of" ["part"] (sp_number_of K) := by
  refine T.mkFn 0 14 (d := d_number_of) (N := ["part", "figures", "sign"]) (k := 0) rfl rfl rfl rfl rfl sc_number_of (fun _ _ _ _ _ _ us hl => match us, hl with | [_], _ => rfl) (fun vs H Q E h => ?len) (fun cdv A outer s H vs Q E hr h => ⟨_,
      (pss_cons (ps_set (i := 1) sc_number_of.nd rfl (Or.inl rfl) (pv 0))
        (pss_cut (ps_if (pt_cmpR (op_eqK (K := K) rfl hr.units) (pe_slice sl_str (pv 0) po_none (po_some pe_int)) pe_str (nomark _)) (pss_one (ps_set (i := 1) sc_number_of.nd rfl (Or.inl rfl) (pe_slice sl_str (pv 0) (po_some pe_int) po_none))) pss_nil)
        (pss_cons (ps_if (PW.pt (pw_or (pt_cmpR (op_eqK (K := K) rfl hr.units) (pv 1) pe_str (nomark _)) (pw_or (pt_cmpR op_gt (pe_callB (call_lenK (K := K) rfl) (by rfl) (T.free 50) PySem.boot_len (pa_cons (pv 1) pa_nil)) (pe_num (T.num 43) (by rfl)) (nomark _)) (pw_or1 (PW.pt (pw_and (pt_cmpR (op_eqK (K := K) rfl hr.units) (pe_ix (ix_seqK (K := K) rfl) (pv 1) pe_int (fun _ _ => rfl)) pe_str (nomark _)) (pw_and1 (pt_cmpR (op_neK (K := K) rfl hr.units) (pv 0) pe_str (nomark _))))))))) (pss_one (ps_raiseK (K := K) rfl rfl (takes_of rfl rfl rfl rfl) (T.says.fact 71 rfl) (T.glo 11) (by rfl))) pss_nil)
        (pss_cons (ps_for (passes_of rfl) rfl (pi_str (pv 1)) (pg_name (i := 2) sc_number_of.nd rfl (Or.inl rfl)) (pss_one (ps_if (pt_cmpR op_gNinS (pv 2) (pe_txt (T.txt 42) (by rfl)) (by rfl)) (pss_one (ps_raiseK (K := K) rfl rfl (takes_of rfl rfl rfl rfl) (T.says.fact 71 rfl) (T.glo 11) (by rfl))) pss_nil)))
        (pss_one (ps_ret (pe_callTy call_gIntS (by rfl) (T.free 53) (by decide +kernel) (pa_cons (pv 0) pa_nil)))))))), ?rd⟩)
  case len => obtain ⟨p, rfl, _⟩ := h; rfl
  case rd =>
    obtain ⟨p, rfl, hl, h⟩ := h
    have sz : 10000000 ≤ sizeLine := by rw [sizeLine_eq]; omega
    walk_at "wt"
    have e1 := bodyP_lit.1
    have e2 := bodyP_lit.2.1
    have e3 := bodyP_lit.2.2
    have bl : (bodyP p).length ≤ p.length := body_len
    refine ⟨fun σ' H' => H' = H ∧ σ' = [some (.str (Sg p)), some (.str (Sg (bodyP p))), none], ?_, ?_⟩
    · refine r_slStr (by omega) ?_
      rw [cutL_to1]
      walk_at "wt"
      simp only [sg_is e1]
      unfold bodyP
      split
      · refine r_slStr (by omega) ⟨rfl, ?_⟩
        rw [cutL_from1]
      · exact rfl
    rintro σ' H' ⟨rfl, rfl⟩
    walk_at "wt"
    have none_ : (bodyP p = [] ∨ 60 < (bodyP p).length ∨ ((bodyP p).head? = some 48 ∧ p ≠ [48])) → E (Ex K "NoDeed") none H' := fun c => by
      have hn : numP p = none := by
        unfold numP
        rw [if_pos c]
      rw [hn] at h
      exact h
    simp only [sg_is e2]
    split
    · rename_i c
      exact none_ (.inl c)
    rename_i c1
    refine r_lenStr ⟨by omega, ?_⟩
    walk_at "wt"
    split
    · exact none_ (.inr (.inl (by omega)))
    rename_i c2
    obtain ⟨c0, r0, er⟩ : ∃ c r, bodyP p = c :: r := by
      cases e : bodyP p with
      | nil => exact absurd e c1
      | cons c r => exact ⟨c, r, rfl⟩
    refine r_ixStr (i := 0) (by omega) (by rw [er]; rfl) ?_
    walk_at "wt"
    simp only [sg_is e3]
    have loop : ¬ ((bodyP p).head? = some 48 ∧ p ≠ [48]) → ForW (Its (Sg (bodyP p))) (gName 2) (tIfS (tTest (tOp gNinS (tVar 2) (tC (V.str "0123456789")))) (G.tRaise (He.ga K "NoDeed") fun cls d x H => E cls d H) tNext) { nx := tRet (tCB gIntS (tCons (tVar 0) tNil)) { nx := fun x H' => Q V.non H', rt := Q }, rt := Q } [some (V.str (Sg p)), some (V.str (Sg (bodyP p))), none] H' := fun c3 => by
      have cc : ¬ (bodyP p = [] ∨ 60 < (bodyP p).length ∨ ((bodyP p).head? = some 48 ∧ p ≠ [48])) := by
        rintro (z | z | z)
        · exact c1 z
        · omega
        · exact c3 z
      refine forW_str (fun i σ H => H = H' ∧ (∀ c ∈ (bodyP p).take i, isDig c = true) ∧ ∃ o, σ = [some (V.str (Sg p)), some (V.str (Sg (bodyP p))), o]) ⟨rfl, (fun c m => by rw [List.take_zero] at m; exact (List.not_mem_nil m).elim), _, rfl⟩ ?_ ?_
      · rintro i c σ H ec ⟨rfl, ad, o, rfl⟩
        walk_at "wt"
        simp only [fig_inP]
        cases ed : isDig c with
        | false =>
          walk_at "wt"
          have hn : numP p = none := by
            unfold numP
            rw [if_neg cc, if_neg]
            intro al
            have := List.all_eq_true.mp al c (List.mem_of_getElem? ec)
            rw [ed] at this
            cases this
          rw [hn] at h
          exact h
        | true =>
          walk_at "wt"
          refine ⟨fun d m => ?_, _, rfl⟩
          rw [List.take_add_one, ec] at m
          rcases List.mem_append.mp m with m | m
          · exact ad d m
          · rw [List.mem_singleton.mp m]
            exact ed
      · rintro σ H ⟨rfl, ad, o, rfl⟩
        rw [List.take_length] at ad
        walk_at "wt"
        have hs : ∃ n, numP p = some n := by
          unfold numP
          rw [if_neg cc, if_pos (List.all_eq_true.mpr ad)]
          exact ⟨_, rfl⟩
        obtain ⟨n, en⟩ := hs
        rw [en] at h
        obtain ⟨i1, i2⟩ := int_text en
        exact ⟨_, _, rfl, i1, i2, h⟩
    split
    · rename_i c4
      have e0 : c0 = 48 := (List.cons.inj c4).1
      split
      · rename_i c5
        exact none_ (.inr (.inr ⟨by rw [er, e0]; rfl, c5⟩))
      · rename_i c5
        exact loop fun z => c5 z.2
    · rename_i c4
      refine loop fun z => c4 ?_
      have z1 := z.1
      rw [er] at z1
      rw [show c0 = 48 from Option.some.inj z1]
theorem fz_number_of (T : Tx K mg) : FnZ P w K mg base 1 "number_of" ["part"] (sp_number_of K) := by
  refine T.mkFnZ 0 14 (d := d_number_of) (N := ["part", "figures", "sign"]) (k := 0) rfl rfl rfl rfl rfl sc_number_of (fun _ _ _ _ _ _ us hl => match us, hl with | [_], _ => rfl) (fun vs H Q E h => ?len) (fun cdv A outer s H vs Q E hr h => ⟨_,
      (pss_cons (ps_set (i := 1) sc_number_of.nd rfl (Or.inl rfl) (pv 0))
        (pss_cut (ps_if (pt_cmpR (op_eqK (K := K) rfl hr.units) (pe_slice sl_str (pv 0) po_none (po_some pe_int)) pe_str (nomark _)) (pss_one (ps_set (i := 1) sc_number_of.nd rfl (Or.inl rfl) (pe_slice sl_str (pv 0) (po_some pe_int) po_none))) pss_nil)
        (pss_cons (ps_if (PW.pt (pw_or (pt_cmpR (op_eqK (K := K) rfl hr.units) (pv 1) pe_str (nomark _)) (pw_or (pt_cmpR op_gt (pe_callB (call_lenK (K := K) rfl) (by rfl) (T.free 50) PySem.boot_len (pa_cons (pv 1) pa_nil)) (pe_num (T.num 43) (by rfl)) (nomark _)) (pw_or1 (PW.pt (pw_and (pt_cmpR (op_eqK (K := K) rfl hr.units) (pe_ix (ix_seqK (K := K) rfl) (pv 1) pe_int (fun _ _ => rfl)) pe_str (nomark _)) (pw_and1 (pt_cmpR (op_neK (K := K) rfl hr.units) (pv 0) pe_str (nomark _))))))))) (pss_one (ps_raiseKZ (K := K) rfl rfl (L2N.takes_of rfl rfl rfl rfl) (T.says.fact 71 rfl) (T.glo 11) (by rfl))) pss_nil)
        (pss_cons (ps_for (passes_of rfl) rfl (pi_str (pv 1)) (pg_name (i := 2) sc_number_of.nd rfl (Or.inl rfl)) (pss_one (ps_if (pt_cmpR op_gNinS (pv 2) (pe_txt (T.txt 42) (by rfl)) (by rfl)) (pss_one (ps_raiseKZ (K := K) rfl rfl (L2N.takes_of rfl rfl rfl rfl) (T.says.fact 71 rfl) (T.glo 11) (by rfl))) pss_nil)))
        (pss_one (ps_ret (pe_callTy call_gIntS (by rfl) (T.free 53) (by decide +kernel) (pa_cons (pv 0) pa_nil)))))))), ?rd⟩)
  case len => obtain ⟨p, rfl, _⟩ := h; rfl
  case rd =>
    obtain ⟨p, rfl, hl, h⟩ := h
    have sz : 10000000 ≤ sizeLine := by rw [sizeLine_eq]; omega
    walk_at "wt"
    have e1 := bodyP_lit.1
    have e2 := bodyP_lit.2.1
    have e3 := bodyP_lit.2.2
    have bl : (bodyP p).length ≤ p.length := body_len
    refine ⟨fun σ' H' => H' = H ∧ σ' = [some (.str (Sg p)), some (.str (Sg (bodyP p))), none], ?_, ?_⟩
    · refine r_slStr (by omega) ?_
      rw [cutL_to1]
      walk_at "wt"
      simp only [sg_is e1]
      unfold bodyP
      split
      · refine r_slStr (by omega) ⟨rfl, ?_⟩
        rw [cutL_from1]
      · exact rfl
    rintro σ' H' ⟨rfl, rfl⟩
    walk_at "wt"
    have none_ : (bodyP p = [] ∨ 60 < (bodyP p).length ∨ ((bodyP p).head? = some 48 ∧ p ≠ [48])) → E (Ex K "NoDeed") none H' := fun c => by
      have hn : numP p = none := by
        unfold numP
        rw [if_pos c]
      rw [hn] at h
      exact h
    simp only [sg_is e2]
    split
    · rename_i c
      exact none_ (.inl c)
    rename_i c1
    refine r_lenStr ⟨by omega, ?_⟩
    walk_at "wt"
    split
    · exact none_ (.inr (.inl (by omega)))
    rename_i c2
    obtain ⟨c0, r0, er⟩ : ∃ c r, bodyP p = c :: r := by
      cases e : bodyP p with
      | nil => exact absurd e c1
      | cons c r => exact ⟨c, r, rfl⟩
    refine r_ixStr (i := 0) (by omega) (by rw [er]; rfl) ?_
    walk_at "wt"
    simp only [sg_is e3]
    have loop : ¬ ((bodyP p).head? = some 48 ∧ p ≠ [48]) → ForW (Its (Sg (bodyP p))) (gName 2) (tIfS (tTest (tOp gNinS (tVar 2) (tC (V.str "0123456789")))) (G.tRaise (He.ga K "NoDeed") fun cls d x H => E cls d H) tNext) { nx := tRet (tCB gIntS (tCons (tVar 0) tNil)) { nx := fun x H' => Q V.non H', rt := Q }, rt := Q } [some (V.str (Sg p)), some (V.str (Sg (bodyP p))), none] H' := fun c3 => by
      have cc : ¬ (bodyP p = [] ∨ 60 < (bodyP p).length ∨ ((bodyP p).head? = some 48 ∧ p ≠ [48])) := by
        rintro (z | z | z)
        · exact c1 z
        · omega
        · exact c3 z
      refine forW_str (fun i σ H => H = H' ∧ (∀ c ∈ (bodyP p).take i, isDig c = true) ∧ ∃ o, σ = [some (V.str (Sg p)), some (V.str (Sg (bodyP p))), o]) ⟨rfl, (fun c m => by rw [List.take_zero] at m; exact (List.not_mem_nil m).elim), _, rfl⟩ ?_ ?_
      · rintro i c σ H ec ⟨rfl, ad, o, rfl⟩
        walk_at "wt"
        simp only [fig_inP]
        cases ed : isDig c with
        | false =>
          walk_at "wt"
          have hn : numP p = none := by
            unfold numP
            rw [if_neg cc, if_neg]
            intro al
            have := List.all_eq_true.mp al c (List.mem_of_getElem? ec)
            rw [ed] at this
            cases this
          rw [hn] at h
          exact h
        | true =>
          walk_at "wt"
          refine ⟨fun d m => ?_, _, rfl⟩
          rw [List.take_add_one, ec] at m
          rcases List.mem_append.mp m with m | m
          · exact ad d m
          · rw [List.mem_singleton.mp m]
            exact ed
      · rintro σ H ⟨rfl, ad, o, rfl⟩
        rw [List.take_length] at ad
        walk_at "wt"
        have hs : ∃ n, numP p = some n := by
          unfold numP
          rw [if_neg cc, if_pos (List.all_eq_true.mpr ad)]
          exact ⟨_, rfl⟩
        obtain ⟨n, en⟩ := hs
        rw [en] at h
        obtain ⟨i1, i2⟩ := int_text en
        exact ⟨_, _, rfl, i1, i2, h⟩
    split
    · rename_i c4
      have e0 : c0 = 48 := (List.cons.inj c4).1
      split
      · rename_i c5
        exact none_ (.inr (.inr ⟨by rw [er, e0]; rfl, c5⟩))
      · rename_i c5
        exact loop fun z => c5 z.2
    · rename_i c4
      refine loop fun z => c4 ?_
      have z1 := z.1
      rw [er] at z1
      rw [show c0 = 48 from Option.some.inj z1]
end

local macro_rules | `(tactic| walk_at "wt") => `(tactic| try simp only [↓x_var0, ↓x_varS, ↓x_c, ↓x_op, ↓x_un, ↓x_cb, ↓x_nil, ↓x_cons, ↓x_test, ↓x_b, ↓x_ex, ↓x_and, ↓x_or, ↓x_not, ↓x_andV, ↓x_orV, ↓x_notV, ↓x_tif, ↓x_chain, ↓x_menu, ↓x_menuI, ↓x_lst, ↓x_tup, ↓x_dnew, ↓x_callW, ↓x_callN, ↓x_seq, ↓x_next, ↓x_ret, ↓x_retN, ↓x_drop, ↓x_ifS, ↓x_asg, ↓x_name, ↓x_raise, ↓x_fld, ↓x_setF, ↓x_meth, ↓x_make, ↓x_sub, ↓r_min, ↓r_max, ↓x_yes, ↓x_for, ↓x_lock, ↓x_keys, ↓x_cut, ↓x_lc, ↓x_rng1, ↓x_rng2, ↓x_lst1, ↓x_itup, ↓x_rng3, ↓x_three, ↓x_lstg, ↓x_tupg, ↓x_adrS, ↓x_one, ↓x_two, ↓x_adr, ↓x_sl, ↓x_np, ↓x_pt, ↓x_int, ↓x_bm, ↓x_bm0, ↓x_consg, ↓x_nilg, ↓x_dget2, ↓x_dget1, ↓x_dgetN, ↓x_dget, ↓x_din, ↓x_dni, ↓x_dput, ↓x_dpop2, ↓r_isB, ↓r_notB, ↓x_enum, ↓x_zip, ↓x_str, ↓x_strE, ↓r_inS, ↓r_ninS, wipe, List.map_cons, List.map_nil, ↓x_isT, ↓r_isiII, ↓r_isiBB, ↓r_isiIB, ↓r_isiSS, ↓r_neNS, ↓r_neSN, ↓r_neNN, ↓r_eqNS, ↓r_eqSN, ↓r_eqNN, ↓r_eqIS, ↓r_neIS, ↓r_neSI, ↓r_neBS, ↓r_eqBB, ↓r_neBB, ↓x_start, ↓x_K, ↓x_start0, ↓r_i0, ↓r_i, ↓r_u, ↓r_addI, ↓r_addS, ↓r_mulI, ↓r_mulS, ↓r_eqI, ↓r_neI, ↓r_eqS, ↓r_neS, ↓r_absI, ↓r_intI, ↓r_intB, List.length_cons, List.length_nil, List.replicate, List.set_cons_zero, List.set_cons_succ, decide_eq_true_eq, Bool.not_eq_true', decide_eq_false_iff_not, if_true, if_false, Bool.false_eq_true, Bool.true_eq_false, ite_true, ite_false, Bool.not_true, Bool.not_false, c_div, n_ten, c_pow, not_true_eq_false, not_false_eq_true, decide_true, decide_false, true_and, and_true, and_self, true_or, or_true, Int.reduceLT, Int.reduceLE, Int.reduceMul, Int.reduceAdd, Int.reduceSub, Int.reducePow, Int.reduceNeg, Int.reduceDiv, Int.reduceMod, Nat.reducePow, Int.reduceToNat, Int.reduceEq, Int.reduceNe, Nat.reduceLT, Nat.reduceLeDiff, Nat.reduceAdd, ↓x_whole, ↓r_repS, ↓r_repS])
/-! ## texts cut and joined; numbers written -/
theorem spl_cons {acc l : List Nat} {c s : Nat} : TL.spl [s] 0 acc (c :: l) = if c = s then acc :: TL.spl [s] 0 [] l else TL.spl [s] 0 (acc ++ [c]) l := by
  split
  · rename_i h
    subst h
    exact TL.spl_hit (by unfold TL.pre; simp)
  · rename_i h
    exact TL.spl_miss (by unfold TL.pre; simp [h])
theorem spl_ne {s : Nat} : ∀ {l acc : List Nat}, TL.spl [s] 0 acc l ≠ []
  | [], acc => by rw [TL.spl_nil]; exact List.cons_ne_nil _ _
  | c :: l, acc => by
    rw [spl_cons]
    split
    · exact List.cons_ne_nil _ _
    · exact spl_ne
theorem spl_le {s : Nat} : ∀ {l acc : List Nat}, (TL.spl [s] 0 acc l).length ≤ l.length + 1 ∧ ∀ p ∈ TL.spl [s] 0 acc l, p.length ≤ acc.length + l.length
  | [], acc => by
    rw [TL.spl_nil]
    exact ⟨Nat.le_refl _, fun p m => by rw [List.mem_singleton.mp m]; exact Nat.le_add_right _ _⟩
  | c :: l, acc => by
    rw [spl_cons]
    split
    · obtain ⟨h1, h2⟩ := spl_le (s := s) (l := l) (acc := [])
      refine ⟨Nat.succ_le_succ h1, fun p m => ?_⟩
      rcases List.mem_cons.mp m with rfl | m
      · exact Nat.le_add_right _ _
      · have := h2 p m
        rw [List.length_nil] at this
        rw [List.length_cons]
        omega
    · obtain ⟨h1, h2⟩ := spl_le (s := s) (l := l) (acc := acc ++ [c])
      refine ⟨Nat.le_succ_of_le h1, fun p m => ?_⟩
      have := h2 p m
      rw [List.length_append] at this
      rw [List.length_cons]
      have : ([c] : List Nat).length = 1 := rfl
      omega
theorem blank_lit : (" " : Str) = Sg [32] := by decide +kernel
theorem sumlen_le {B : Nat} : ∀ {ps : List (List Nat)}, (∀ p ∈ ps, p.length ≤ B) → (ps.map List.length).sum ≤ ps.length * B
  | [], _ => Nat.zero_le _
  | p :: r, h => by
    have h1 := h p List.mem_cons_self
    have h2 := sumlen_le (ps := r) fun x m => h x (List.mem_cons_of_mem _ m)
    rw [List.map_cons, List.sum_cons, List.length_cons, Nat.succ_mul]
    omega
def figL (n : Int) : List Nat := (if n < 0 then [45] else []) ++ TL.numL n.natAbs
theorem str_int (n : Int) : (Str.ofString (toString n)) = Sg (figL n) := by
  cases n with
  | ofNat m =>
    refine TL.ext_tl ?_
    have : figL (Int.ofNat m) = TL.numL m := by
      unfold figL
      rw [if_neg (show ¬ Int.ofNat m < 0 from Int.not_lt.mpr (Int.natCast_nonneg m))]
      rfl
    rw [this]
    exact TL.tl_num m
  | negSucc m =>
    refine TL.ext_tl ?_
    have : figL (Int.negSucc m) = 45 :: TL.numL (m + 1) := by
      unfold figL
      rw [if_pos (Int.negSucc_lt_zero m)]
      rfl
    rw [this]
    have e1 : TL.tl (Str.ofString (toString (m + 1))) = TL.numL (m + 1) := TL.tl_num (m + 1)
    show TL.tl (Str.ofString ("-" ++ toString (m + 1))) = 45 :: TL.numL (m + 1)
    rw [TL.tl_ofString] at e1 ⊢
    rw [String.toList_append, List.map_append, e1]
    rfl
theorem figL_len {n : Int} (h : n.natAbs < 10 ^ 100) : (figL n).length ≤ 101 := by
  have := TL.numL_len (n := n.natAbs) (k := 100) (by omega) h
  unfold figL
  rw [List.length_append]
  split
  · show 1 + _ ≤ _
    omega
  · show 0 + _ ≤ _
    omega
theorem fig_log {n : Int} (h : n.natAbs < 10 ^ 100) : n.natAbs.log2 < 1920 := by
  by_cases z : n.natAbs = 0
  · rw [z]
    decide
  · exact (Nat.log2_lt z).mpr (Nat.lt_trans h (by decide +kernel))
theorem numL_head {n : Nat} (h : 0 < n) : (TL.numL n).head? ≠ some 48 := by
  induction n using Nat.strongRecOn with
  | _ n ih =>
    by_cases c : n < 10
    · rw [TL.numL_lt c]
      intro z
      have := Option.some.inj z
      omega
    · rw [TL.numL_step (by omega)]
      have := ih (n / 10) (by omega) (by omega)
      cases e : TL.numL (n / 10) with
      | nil => exact absurd e (TL.numL_ne _)
      | cons a r =>
        rw [e] at this
        exact this
theorem fig_num {n : Int} (h : n.natAbs < 10 ^ 60) : numP (figL n) = some n := by
  have ad := TL.numL_digits n.natAbs
  have ne := TL.numL_ne n.natAbs
  have hl := TL.numL_len (n := n.natAbs) (k := 60) (by omega) h
  have hv : valL (TL.numL n.natAbs) = n.natAbs := TL.numL_val _
  have al : (TL.numL n.natAbs).all isDig = true := List.all_eq_true.mpr fun c m => decide_eq_true (ad c m)
  by_cases c : n < 0
  · have ef : figL n = 45 :: TL.numL n.natAbs := by unfold figL; rw [if_pos c]; rfl
    have eb : bodyP (figL n) = TL.numL n.natAbs := by rw [ef]; rfl
    have hh := numL_head (n := n.natAbs) (by omega)
    unfold numP
    rw [eb, if_neg, if_pos al, if_pos (by rw [ef]; rfl), hv]
    · congr 1
      omega
    · rintro (z | z | z)
      · exact ne z
      · omega
      · exact hh z.1
  · have ef : figL n = TL.numL n.natAbs := by unfold figL; rw [if_neg c]; rfl
    have nt : ¬ (figL n).take 1 = [45] := by
      rw [ef]
      cases e : TL.numL n.natAbs with
      | nil => exact absurd e ne
      | cons a r =>
        have := ad a (by rw [e]; exact List.mem_cons_self)
        intro z
        have z : [a] = [45] := z
        have := (List.cons.inj z).1
        omega
    have eb : bodyP (figL n) = TL.numL n.natAbs := by
      unfold bodyP
      rw [if_neg nt, ef]
    unfold numP
    rw [eb, if_neg, if_pos al, if_neg nt, hv]
    · congr 1
      omega
    · rintro (z | z | z)
      · exact ne z
      · omega
      · by_cases c0 : n.natAbs = 0
        · refine z.2 ?_
          rw [ef, c0]
          rfl
        · exact numL_head (by omega) z.1
theorem fig_free {n : Int} : 32 ∉ figL n := by
  intro m
  unfold figL at m
  rcases List.mem_append.mp m with m | m
  · split at m
    · exact absurd (List.mem_singleton.mp m) (by decide)
    · exact List.not_mem_nil m
  · exact TL.numL_free (.inl (by decide)) m

local macro_rules | `(tactic| walk_at "wt") => `(tactic| try simp only [↓x_var0, ↓x_varS, ↓x_c, ↓x_op, ↓x_un, ↓x_cb, ↓x_nil, ↓x_cons, ↓x_test, ↓x_b, ↓x_ex, ↓x_and, ↓x_or, ↓x_not, ↓x_andV, ↓x_orV, ↓x_notV, ↓x_tif, ↓x_chain, ↓x_menu, ↓x_menuI, ↓x_lst, ↓x_tup, ↓x_dnew, ↓x_callW, ↓x_callN, ↓x_seq, ↓x_next, ↓x_ret, ↓x_retN, ↓x_drop, ↓x_ifS, ↓x_asg, ↓x_name, ↓x_raise, ↓x_fld, ↓x_setF, ↓x_meth, ↓x_make, ↓x_sub, ↓r_min, ↓r_max, ↓x_yes, ↓x_for, ↓x_lock, ↓x_keys, ↓x_cut, ↓x_lc, ↓x_rng1, ↓x_rng2, ↓x_lst1, ↓x_itup, ↓x_rng3, ↓x_three, ↓x_lstg, ↓x_tupg, ↓x_adrS, ↓x_one, ↓x_two, ↓x_adr, ↓x_sl, ↓x_np, ↓x_pt, ↓x_int, ↓x_bm, ↓x_bm0, ↓x_consg, ↓x_nilg, ↓x_dget2, ↓x_dget1, ↓x_dgetN, ↓x_dget, ↓x_din, ↓x_dni, ↓x_dput, ↓x_dpop2, ↓r_isB, ↓r_notB, ↓x_enum, ↓x_zip, ↓x_str, ↓x_strE, ↓r_inS, ↓r_ninS, wipe, List.map_cons, List.map_nil, ↓x_isT, ↓r_isiII, ↓r_isiBB, ↓r_isiIB, ↓r_isiSS, ↓r_neNS, ↓r_neSN, ↓r_neNN, ↓r_eqNS, ↓r_eqSN, ↓r_eqNN, ↓r_eqIS, ↓r_neIS, ↓r_neSI, ↓r_neBS, ↓r_eqBB, ↓r_neBB, ↓x_start, ↓x_K, ↓x_start0, ↓r_i0, ↓r_i, ↓r_u, ↓r_addI, ↓r_addS, ↓r_mulI, ↓r_mulS, ↓r_eqI, ↓r_neI, ↓r_eqS, ↓r_neS, ↓r_absI, ↓r_intI, ↓r_intB, List.length_cons, List.length_nil, List.replicate, List.set_cons_zero, List.set_cons_succ, decide_eq_true_eq, Bool.not_eq_true', decide_eq_false_iff_not, if_true, if_false, Bool.false_eq_true, Bool.true_eq_false, ite_true, ite_false, Bool.not_true, Bool.not_false, c_div, n_ten, c_pow, not_true_eq_false, not_false_eq_true, decide_true, decide_false, true_and, and_true, and_self, true_or, or_true, Int.reduceLT, Int.reduceLE, Int.reduceMul, Int.reduceAdd, Int.reduceSub, Int.reducePow, Int.reduceNeg, Int.reduceDiv, Int.reduceMod, Nat.reducePow, Int.reduceToNat, Int.reduceEq, Int.reduceNe, Nat.reduceLT, Nat.reduceLeDiff, Nat.reduceAdd, ↓x_whole, ↓r_repS, ↓r_repS, ↓r_repS])
/-! ## a number's one writing -/
theorem valL_nil : valL [] = 0 := rfl
theorem valL_snoc {l : List Nat} {c : Nat} : valL (l ++ [c]) = valL l * 10 + (c - 48) := by
  unfold valL PySem.NumText.digitsVal
  rw [List.foldl_append]
  rfl
theorem valL_lt : ∀ {k : Nat} {l : List Nat}, l.length = k → (∀ c ∈ l, isDig c = true) → valL l < 10 ^ k
  | 0, l, e, _ => by
    rw [List.eq_nil_of_length_eq_zero e]
    decide
  | k + 1, l, e, h => by
    obtain ⟨l', a, rfl⟩ : ∃ l' a, l = l' ++ [a] := by
      rcases List.eq_nil_or_concat l with z | ⟨l', a, z⟩
      · rw [z] at e
        cases e
      · exact ⟨l', a, by rw [z, List.concat_eq_append]⟩
    rw [List.length_append] at e
    have e : l'.length + 1 = k + 1 := e
    have ih := valL_lt (k := k) (l := l') (by omega) fun c m => h c (List.mem_append_left _ m)
    have hd := of_decide_eq_true (h a (List.mem_append_right _ (List.mem_singleton.mpr rfl)))
    rw [valL_snoc, Nat.pow_succ]
    omega
theorem valL_ge : ∀ {k : Nat} {l : List Nat}, l.length = k + 1 → (∀ c ∈ l, isDig c = true) → l.head? ≠ some 48 → 10 ^ k ≤ valL l
  | 0, l, e, h, n => by
    obtain ⟨a, rfl⟩ := List.length_eq_one_iff.mp e
    have hd := of_decide_eq_true (h a List.mem_cons_self)
    have : valL [a] = 0 * 10 + (a - 48) := valL_snoc (l := [])
    rw [this]
    have : a ≠ 48 := fun z => n (by rw [z]; rfl)
    show 1 ≤ _
    omega
  | k + 1, l, e, h, n => by
    obtain ⟨l', a, rfl⟩ : ∃ l' a, l = l' ++ [a] := by
      rcases List.eq_nil_or_concat l with z | ⟨l', a, z⟩
      · rw [z] at e
        cases e
      · exact ⟨l', a, by rw [z, List.concat_eq_append]⟩
    rw [List.length_append] at e
    have e : l'.length + 1 = k + 1 + 1 := e
    have hn : l'.head? ≠ some 48 := by
      cases l' with
      | nil => intro z; cases z
      | cons x r => exact n
    have ih := valL_ge (k := k) (l := l') (by omega) (fun c m => h c (List.mem_append_left _ m)) hn
    rw [valL_snoc, Nat.pow_succ]
    omega
theorem valL_inj : ∀ {k : Nat} {a b : List Nat}, a.length = k → b.length = k → (∀ c ∈ a, isDig c = true) → (∀ c ∈ b, isDig c = true) → valL a = valL b → a = b
  | 0, a, b, ea, eb, _, _, _ => by rw [List.eq_nil_of_length_eq_zero ea, List.eq_nil_of_length_eq_zero eb]
  | k + 1, a, b, ea, eb, ha, hb, h => by
    have sn : ∀ {l : List Nat}, l.length = k + 1 → ∃ l' a, l = l' ++ [a] := fun {l} e => by
      rcases List.eq_nil_or_concat l with z | ⟨l', a, z⟩
      · rw [z] at e
        cases e
      · exact ⟨l', a, by rw [z, List.concat_eq_append]⟩
    obtain ⟨a', x, rfl⟩ := sn ea
    obtain ⟨b', y, rfl⟩ := sn eb
    rw [List.length_append] at ea eb
    have ea : a'.length + 1 = k + 1 := ea
    have eb : b'.length + 1 = k + 1 := eb
    rw [valL_snoc, valL_snoc] at h
    have hx := of_decide_eq_true (ha x (List.mem_append_right _ (List.mem_singleton.mpr rfl)))
    have hy := of_decide_eq_true (hb y (List.mem_append_right _ (List.mem_singleton.mpr rfl)))
    have e1 : valL a' = valL b' := by omega
    have e2 : x = y := by omega
    rw [valL_inj (k := k) (by omega) (by omega) (fun c m => ha c (List.mem_append_left _ m)) (fun c m => hb c (List.mem_append_left _ m)) e1, e2]
/-- bodies without a nought ahead -/
def canB (l : List Nat) : Prop := l ≠ [] ∧ (∀ c ∈ l, isDig c = true) ∧ (l.head? = some 48 → l = [48])
theorem canB_inj {a b : List Nat} (ha : canB a) (hb : canB b) (h : valL a = valL b) : a = b := by
  have nz : ∀ {l : List Nat}, canB l → l ≠ [48] → l.head? ≠ some 48 ∧ ∃ k, l.length = k + 1 := fun {l} c n => ⟨fun z => n (c.2.2 z), l.length - 1, by
    have : l.length ≠ 0 := fun z => c.1 (List.eq_nil_of_length_eq_zero z)
    omega⟩
  have v0 : valL [48] = 0 := by decide
  have pos : ∀ {l : List Nat}, canB l → l ≠ [48] → 0 < valL l := fun {l} c n => by
    obtain ⟨h1, k, e⟩ := nz c n
    have := valL_ge e c.2.1 h1
    have : 0 < 10 ^ k := Nat.pow_pos (by decide)
    omega
  by_cases c1 : a = [48]
  · by_cases c2 : b = [48]
    · rw [c1, c2]
    · have := pos hb c2
      rw [← h, c1, v0] at this
      exact absurd this (Nat.lt_irrefl _)
  · by_cases c2 : b = [48]
    · have := pos ha c1
      rw [h, c2, v0] at this
      exact absurd this (Nat.lt_irrefl _)
    · obtain ⟨h1, i, e1⟩ := nz ha c1
      obtain ⟨h2, j, e2⟩ := nz hb c2
      have g1 := valL_ge e1 ha.2.1 h1
      have g2 := valL_ge e2 hb.2.1 h2
      have l1 := valL_lt e1 ha.2.1
      have l2 := valL_lt e2 hb.2.1
      have ij : i = j := by
        rcases Nat.lt_trichotomy i j with z | z | z
        · have := Nat.pow_le_pow_right (show 0 < 10 by decide) (show i + 1 ≤ j from z)
          omega
        · exact z
        · have := Nat.pow_le_pow_right (show 0 < 10 by decide) (show j + 1 ≤ i from z)
          omega
      subst ij
      exact valL_inj e1 e2 ha.2.1 hb.2.1 h
theorem numP_is {p : List Nat} {n : Int} (h : numP p = some n) : (p.take 1 ≠ [45] ∧ bodyP p = p ∧ n = (valL p : Int) ∧ canB p ∨ p.take 1 = [45] ∧ p = 45 :: bodyP p ∧ n = -(valL (bodyP p) : Int) ∧ canB (bodyP p) ∧ bodyP p ≠ [48]) ∧ (bodyP p).length ≤ 60 := by
  unfold numP at h
  split at h
  · cases h
  · rename_i c
    split at h
    · rename_i d
      have e := Option.some.inj h
      have nb : bodyP p ≠ [] := fun z => c (.inl z)
      have ad : ∀ c ∈ bodyP p, isDig c = true := fun c m => List.all_eq_true.mp d c m
      have hb : (bodyP p).head? = some 48 → p = [48] := fun z => Classical.byContradiction fun n => c (.inr (.inr ⟨z, n⟩))
      refine ⟨?_, Nat.le_of_not_lt fun z => c (.inr (.inl z))⟩
      by_cases m : p.take 1 = [45]
      · have eb : bodyP p = p.drop 1 := if_pos m
        have ep : p = 45 :: bodyP p := by rw [eb, ← List.take_append_drop 1 p, m]; rfl
        rw [if_pos m] at e
        have no : (bodyP p).head? ≠ some 48 := fun z => by
          have := hb z
          rw [this] at m
          cases m
        exact .inr ⟨m, ep, e.symm, ⟨nb, ad, fun z => absurd z no⟩, fun z => no (by rw [z]; rfl)⟩
      · have eb : bodyP p = p := if_neg m
        rw [if_neg m] at e
        rw [eb] at nb ad hb e
        exact .inl ⟨m, eb, e.symm, nb, ad, hb⟩
    · cases h
theorem numP_inj {p q : List Nat} {n : Int} (hp : numP p = some n) (hq : numP q = some n) : p = q := by
  have pos : ∀ {l : List Nat}, canB l → l ≠ [48] → 0 < valL l := fun {l} c n => by
    have ne : l.length ≠ 0 := fun z => c.1 (List.eq_nil_of_length_eq_zero z)
    have := valL_ge (k := l.length - 1) (l := l) (by omega) c.2.1 fun z => n (c.2.2 z)
    have : 0 < 10 ^ (l.length - 1) := Nat.pow_pos (by decide)
    omega
  rcases (numP_is hp).1 with ⟨-, -, e1, c1⟩ | ⟨-, g1, e1, c1, z1⟩ <;> rcases (numP_is hq).1 with ⟨-, -, e2, c2⟩ | ⟨-, g2, e2, c2, z2⟩
  · exact canB_inj c1 c2 (by omega)
  · have := pos c2 z2
    omega
  · have := pos c1 z1
    omega
  · rw [g1, g2, canB_inj c1 c2 (by omega)]
theorem num_fig {p : List Nat} {n : Int} (h : numP p = some n) : p = figL n := by
  refine numP_inj h (fig_num ?_)
  obtain ⟨h1, h2⟩ := numP_is h
  have le : ∀ {l : List Nat}, canB l → l.length ≤ 60 → valL l < 10 ^ 60 := fun {l} c g => Nat.lt_of_lt_of_le (valL_lt rfl c.2.1) (Nat.pow_le_pow_right (by decide) g)
  rcases h1 with ⟨-, eb, e, c⟩ | ⟨-, -, e, c, -⟩
  · rw [eb] at h2
    have := le c h2
    omega
  · have := le c h2
    omega

local macro_rules | `(tactic| walk_at "wt") => `(tactic| try simp only [↓x_var0, ↓x_varS, ↓x_c, ↓x_op, ↓x_un, ↓x_cb, ↓x_nil, ↓x_cons, ↓x_test, ↓x_b, ↓x_ex, ↓x_and, ↓x_or, ↓x_not, ↓x_andV, ↓x_orV, ↓x_notV, ↓x_tif, ↓x_chain, ↓x_menu, ↓x_menuI, ↓x_lst, ↓x_tup, ↓x_dnew, ↓x_callW, ↓x_callN, ↓x_seq, ↓x_next, ↓x_ret, ↓x_retN, ↓x_drop, ↓x_ifS, ↓x_asg, ↓x_name, ↓x_raise, ↓x_fld, ↓x_setF, ↓x_meth, ↓x_make, ↓x_sub, ↓r_min, ↓r_max, ↓x_yes, ↓x_for, ↓x_lock, ↓x_keys, ↓x_cut, ↓x_lc, ↓x_rng1, ↓x_rng2, ↓x_lst1, ↓x_itup, ↓x_rng3, ↓x_three, ↓x_lstg, ↓x_tupg, ↓x_adrS, ↓x_one, ↓x_two, ↓x_adr, ↓x_sl, ↓x_np, ↓x_pt, ↓x_int, ↓x_bm, ↓x_bm0, ↓x_consg, ↓x_nilg, ↓x_dget2, ↓x_dget1, ↓x_dgetN, ↓x_dget, ↓x_din, ↓x_dni, ↓x_dput, ↓x_dpop2, ↓r_isB, ↓r_notB, ↓x_enum, ↓x_zip, ↓x_str, ↓x_strE, ↓r_inS, ↓r_ninS, wipe, List.map_cons, List.map_nil, ↓x_isT, ↓r_isiII, ↓r_isiBB, ↓r_isiIB, ↓r_isiSS, ↓r_neNS, ↓r_neSN, ↓r_neNN, ↓r_eqNS, ↓r_eqSN, ↓r_eqNN, ↓r_eqIS, ↓r_neIS, ↓r_neSI, ↓r_neBS, ↓r_eqBB, ↓r_neBB, ↓x_start, ↓x_K, ↓x_start0, ↓r_i0, ↓r_i, ↓r_u, ↓r_addI, ↓r_addS, ↓r_mulI, ↓r_mulS, ↓r_eqI, ↓r_neI, ↓r_eqS, ↓r_neS, ↓r_absI, ↓r_intI, ↓r_intB, List.length_cons, List.length_nil, List.replicate, List.set_cons_zero, List.set_cons_succ, decide_eq_true_eq, Bool.not_eq_true', decide_eq_false_iff_not, if_true, if_false, Bool.false_eq_true, Bool.true_eq_false, ite_true, ite_false, Bool.not_true, Bool.not_false, c_div, n_ten, c_pow, not_true_eq_false, not_false_eq_true, decide_true, decide_false, true_and, and_true, and_self, true_or, or_true, Int.reduceLT, Int.reduceLE, Int.reduceMul, Int.reduceAdd, Int.reduceSub, Int.reducePow, Int.reduceNeg, Int.reduceDiv, Int.reduceMod, Nat.reducePow, Int.reduceToNat, Int.reduceEq, Int.reduceNe, Nat.reduceLT, Nat.reduceLeDiff, Nat.reduceAdd, ↓x_whole, ↓r_repS, ↓r_repS, ↓r_repS, ↓r_repS])
/-! ## programs as lines, without a heap -/
theorem join_spl {s : Nat} : ∀ {l acc : List Nat}, TL.joinL [s] (TL.spl [s] 0 acc l) = acc ++ l
  | [], acc => by
    rw [TL.spl_nil, List.append_nil]
    rfl
  | c :: l, acc => by
    rw [spl_cons]
    split
    · rename_i h
      have ih := join_spl (s := s) (l := l) (acc := [])
      have ne := spl_ne (s := s) (l := l) (acc := [])
      generalize TL.spl [s] 0 [] l = r at ih ne ⊢
      cases r with
      | nil => exact absurd rfl ne
      | cons q r =>
        show acc ++ ([s] ++ TL.joinL [s] (q :: r)) = _
        rw [ih, h]
        rfl
    · rw [join_spl (s := s) (l := l) (acc := acc ++ [c]), List.append_assoc]
      rfl
theorem spl_free {s : Nat} : ∀ {l acc : List Nat}, s ∉ acc → ∀ p ∈ TL.spl [s] 0 acc l, s ∉ p
  | [], acc, h, p, m => by
    rw [TL.spl_nil] at m
    rw [List.mem_singleton.mp m]
    exact h
  | c :: l, acc, h, p, m => by
    rw [spl_cons] at m
    split at m
    · rcases List.mem_cons.mp m with rfl | m
      · exact h
      · exact spl_free (s := s) (l := l) (acc := []) List.not_mem_nil p m
    · rename_i n
      refine spl_free (s := s) (l := l) (acc := acc ++ [c]) (fun z => ?_) p m
      rcases List.mem_append.mp z with z | z
      · exact h z
      · exact n (List.mem_singleton.mp z).symm
abbrev Ln : Type := List Nat
abbrev wMake : Ln := [109, 97, 107, 101]
abbrev wKeep : Ln := [107, 101, 101, 112]
abbrev wCopy : Ln := [99, 111, 112, 121]
abbrev wDrop : Ln := [100, 114, 111, 112]
abbrev wGet : Ln := [103, 101, 116]
abbrev wSet : Ln := [115, 101, 116]
abbrev wTell : Ln := [116, 101, 108, 108]
abbrev wAgain : Ln := [97, 103, 97, 105, 110]
abbrev wIf : Ln := [105, 102]
abbrev wEnd : Ln := [101, 110, 100]
theorem lits : ("make" : Str) = Sg wMake ∧ ("keep" : Str) = Sg wKeep ∧ ("copy" : Str) = Sg wCopy ∧ ("drop" : Str) = Sg wDrop ∧ ("get" : Str) = Sg wGet ∧ ("set" : Str) = Sg wSet ∧ ("tell" : Str) = Sg wTell ∧ ("again" : Str) = Sg wAgain ∧ ("if" : Str) = Sg wIf ∧ ("end" : Str) = Sg wEnd :=
  ⟨by decide +kernel, by decide +kernel, by decide +kernel, by decide +kernel, by decide +kernel, by decide +kernel, by decide +kernel, by decide +kernel, by decide +kernel, by decide +kernel⟩
theorem lits2 : ("n" : Str) = Sg [110] ∧ ("nc" : Str) = Sg [110, 99] ∧ ("nn" : Str) = Sg [110, 110] ∧ ("nnc" : Str) = Sg [110, 110, 99] ∧ ("ncn" : Str) = Sg [110, 99, 110] ∧ ("t" : Str) = Sg [116] ∧ ("" : Str) = Sg [] ∧ ("\n" : Str) = Sg [10] :=
  ⟨by decide +kernel, by decide +kernel, by decide +kernel, by decide +kernel, by decide +kernel, by decide +kernel, by decide +kernel, by decide +kernel⟩
/-- what stands behind a word -/
def shpL (w : Ln) : Option Ln := if w = wDrop ∨ w = wTell ∨ w = wIf then some [110] else if w = wMake ∨ w = wKeep then some [110, 99] else if w = wCopy then some [110, 110] else if w = wGet then some [110, 110, 99] else if w = wSet then some [110, 99, 110] else if w = wAgain then some [116] else if w = wEnd then some [] else none
def isLet (c : Nat) : Bool := decide (97 ≤ c ∧ c ≤ 122)
theorem lets_tl : TL.tl ("abcdefghijklmnopqrstuvwxyz" : Str) = [97, 98, 99, 100, 101, 102, 103, 104, 105, 106, 107, 108, 109, 110, 111, 112, 113, 114, 115, 116, 117, 118, 119, 120, 121, 122] := by decide +kernel
theorem let_in {c : Nat} : decide (c ∈ TL.tl ("abcdefghijklmnopqrstuvwxyz" : Str)) = isLet c := by
  rw [lets_tl]
  unfold isLet
  congr 1
  simp only [List.mem_cons, List.not_mem_nil, or_false, eq_iff_iff]
  omega
theorem let_inP {c : Nat} : (c ∈ TL.tl ("abcdefghijklmnopqrstuvwxyz" : Str)) = (isLet c = true) := by
  rw [← let_in]
  exact propext ⟨decide_eq_true, of_decide_eq_true⟩
def isNm (p : Ln) : Bool := decide (1 ≤ p.length ∧ p.length ≤ 8 ∧ p.all isLet = true ∧ shpL p = none)
/-- a part of a line, read -/
def readL (s : Nat) (p : Ln) : Option V := if s = 110 then (if isNm p = true then some (.str (Sg p)) else none) else match numP p with
  | none => none
  | some k => if s = 116 ∧ ¬ (0 ≤ k ∧ k ≤ 9) then none else some (.int k)
def readsL : List Nat → List Ln → Option (List V)
  | [], [] => some []
  | s :: ss, p :: ps => match readL s p with
    | none => none
    | some v => (readsL ss ps).map (v :: ·)
  | _, _ => none
/-- the statement of a line -/
def stmL (l : Ln) : Option (Ln × List V) := match TL.spl [32] 0 [] l with
  | [] => none
  | w :: r => match shpL w with
    | none => none
    | some s => (readsL s r).map fun vs => (w, vs)
def isBl (w : Ln) : Bool := decide (w = wAgain ∨ w = wIf)
/-- how deep behind some lines -/
def scan : Nat → List Ln → Option Nat
  | d, [] => some d
  | d, l :: r => match stmL l with
    | none => none
    | some (w, _) => if w = wEnd then (if d = 0 then none else scan (d - 1) r) else if isBl w = true then (if d = 3 then none else scan (d + 1) r) else scan d r
/-- names of a line -/
def nmS : List Nat → List Ln → List Ln
  | s :: ss, p :: ps => if s = 110 then p :: nmS ss ps else nmS ss ps
  | _, _ => []
def nmW (l : Ln) : List Ln := match TL.spl [32] 0 [] l with
  | [] => []
  | w :: r => match shpL w with
    | none => []
    | some s => nmS s r
def allN (ls : List Ln) : List Ln := ls.flatMap nmW
/-- each once, as they come first -/
def addW (F ks : List Ln) : List Ln := ks.foldl (fun F k => if k ∈ F then F else F ++ [k]) F
def dd (ks : List Ln) : List Ln := addW [] ks
def goodL (ls : List Ln) : Prop := scan 0 ls = some 0 ∧ (dd (allN ls)).length ≤ 42
theorem readsL_len : ∀ {ss : List Nat} {ps : List Ln} {vs : List V}, readsL ss ps = some vs → ps.length = ss.length ∧ vs.length = ss.length
  | [], [], vs, h => by cases h; exact ⟨rfl, rfl⟩
  | s :: ss, p :: ps, vs, h => by
    unfold readsL at h
    cases e : readL s p with
    | none => rw [e] at h; cases h
    | some v =>
      rw [e] at h
      dsimp only at h
      cases e2 : readsL ss ps with
      | none => rw [e2] at h; cases h
      | some us =>
        rw [e2] at h
        cases h
        obtain ⟨h1, h2⟩ := readsL_len e2
        exact ⟨congrArg (· + 1) h1, congrArg (· + 1) h2⟩
  | [], _ :: _, _, h => by cases h
  | _ :: _, [], _, h => by cases h
theorem readsL_at : ∀ {ss : List Nat} {ps : List Ln} {vs : List V} {i s : Nat} {p : Ln}, readsL ss ps = some vs → ss[i]? = some s → ps[i]? = some p → ∃ v, vs[i]? = some v ∧ readL s p = some v
  | s :: ss, p :: ps, vs, i, s', p', h, h1, h2 => by
    unfold readsL at h
    cases e : readL s p with
    | none => rw [e] at h; cases h
    | some v =>
      rw [e] at h
      dsimp only at h
      cases e2 : readsL ss ps with
      | none => rw [e2] at h; cases h
      | some us =>
        rw [e2] at h
        cases h
        cases i with
        | zero =>
          cases h1
          cases h2
          exact ⟨v, rfl, e⟩
        | succ i => exact readsL_at (i := i) e2 h1 h2
  | [], [], _, _, _, _, _, h1, _ => by cases h1
  | [], _ :: _, _, _, _, _, h, _, _ => by cases h
  | _ :: _, [], _, _, _, _, h, _, _ => by cases h
/-- read as far as place i -/
theorem readsL_snoc : ∀ {ss : List Nat} {ps : List Ln} {vs : List V} {s : Nat} {p : Ln} {v : V}, readsL ss ps = some vs → readL s p = some v → readsL (ss ++ [s]) (ps ++ [p]) = some (vs ++ [v])
  | [], [], vs, s, p, v, h, e => by
    cases h
    show readsL [s] [p] = _
    unfold readsL
    rw [e]
    rfl
  | s' :: ss, p' :: ps, vs, s, p, v, h, e => by
    unfold readsL at h
    cases e1 : readL s' p' with
    | none => rw [e1] at h; cases h
    | some v' =>
      rw [e1] at h
      dsimp only at h
      cases e2 : readsL ss ps with
      | none => rw [e2] at h; cases h
      | some us =>
        rw [e2] at h
        cases h
        show readsL (s' :: (ss ++ [s])) (p' :: (ps ++ [p])) = _
        unfold readsL
        rw [e1, readsL_snoc e2 e]
        rfl
  | [], _ :: _, _, _, _, _, h, _ => by cases h
  | _ :: _, [], _, _, _, _, h, _ => by cases h
theorem readsL_none : ∀ {ss : List Nat} {ps : List Ln} {i s : Nat} {p : Ln}, ss[i]? = some s → ps[i]? = some p → readL s p = none → readsL ss ps = none
  | s' :: ss, p' :: ps, i, s, p, h1, h2, e => by
    unfold readsL
    cases i with
    | zero =>
      cases h1
      cases h2
      rw [e]
    | succ i =>
      rw [readsL_none (i := i) h1 h2 e]
      cases readL s' p' <;> rfl
  | [], _, _, _, _, h1, _, _ => by cases h1
  | _ :: _, [], _, _, _, _, h2, _ => by cases h2
theorem readsL_bad {ss : List Nat} {ps : List Ln} (h : ps.length ≠ ss.length) : readsL ss ps = none := by
  cases e : readsL ss ps with
  | none => rfl
  | some vs => exact absurd (readsL_len e).1 h
theorem shp_le {w s : Ln} (h : shpL w = some s) : s.length ≤ 3 ∧ ∀ c ∈ s, c = 110 ∨ c = 99 ∨ c = 116 := by
  unfold shpL at h
  repeat' split at h
  all_goals first
    | (cases h; done)
    | (cases h; refine ⟨by decide, fun c m => ?_⟩; simp only [List.mem_cons, List.not_mem_nil, or_false] at m <;> omega)
theorem shp_end : shpL wEnd = some [] := by decide
theorem shp_end_is {w : Ln} (h : shpL w = some []) : w = wEnd := by
  unfold shpL at h
  repeat' split at h
  all_goals first
    | (cases h; done)
    | assumption
theorem stm_is {l w : Ln} {vs : List V} (h : stmL l = some (w, vs)) : ∃ r s, TL.spl [32] 0 [] l = w :: r ∧ shpL w = some s ∧ readsL s r = some vs ∧ r.length = s.length ∧ vs.length = s.length ∧ s.length ≤ 3 := by
  unfold stmL at h
  cases e : TL.spl [32] 0 [] l with
  | nil => rw [e] at h; cases h
  | cons w' r =>
    rw [e] at h
    dsimp only at h
    cases e2 : shpL w' with
    | none => rw [e2] at h; cases h
    | some s =>
      rw [e2] at h
      dsimp only at h
      cases e3 : readsL s r with
      | none => rw [e3] at h; cases h
      | some us =>
        rw [e3] at h
        cases h
        exact ⟨r, s, rfl, e2, e3, (readsL_len e3).1, (readsL_len e3).2, (shp_le e2).1⟩
theorem stm_end {l : Ln} {vs : List V} (h : stmL l = some (wEnd, vs)) : l = wEnd ∧ vs = [] := by
  obtain ⟨r, s, e1, e2, e3, e4, e5, -⟩ := stm_is h
  rw [shp_end] at e2
  cases e2
  have er : r = [] := List.eq_nil_of_length_eq_zero e4
  have ev : vs = [] := List.eq_nil_of_length_eq_zero e5
  refine ⟨?_, ev⟩
  have := join_spl (s := 32) (l := l) (acc := [])
  rw [e1, er] at this
  exact this.symm
theorem stm_wEnd : stmL wEnd = some (wEnd, []) := by
  unfold stmL
  have : TL.spl [32] 0 [] wEnd = [wEnd] := TL.spl_join (s := 32) (S := []) (parts := [wEnd]) (List.cons_ne_nil _ _) fun p m => by rw [List.mem_singleton.mp m]; decide
  rw [this]
  rfl
theorem nmS_len : ∀ {ss : List Nat} {ps : List Ln}, (nmS ss ps).length ≤ ss.length
  | [], _ => by unfold nmS; exact Nat.zero_le _
  | _ :: _, [] => by unfold nmS; exact Nat.zero_le _
  | s :: ss, p :: ps => by
    unfold nmS
    have := nmS_len (ss := ss) (ps := ps)
    split
    · show _ + 1 ≤ _ + 1
      omega
    · show _ ≤ _ + 1
      omega
theorem nmW_len {l : Ln} : (nmW l).length ≤ 3 := by
  unfold nmW
  cases TL.spl [32] 0 [] l with
  | nil => exact Nat.zero_le _
  | cons w r =>
    dsimp only
    cases e : shpL w with
    | none => exact Nat.zero_le _
    | some s =>
      have := (shp_le e).1
      have := nmS_len (ss := s) (ps := r)
      show (nmS s r).length ≤ 3
      omega
theorem allN_app {a b : List Ln} : allN (a ++ b) = allN a ++ allN b := List.flatMap_append
theorem allN_len {ls : List Ln} : (allN ls).length ≤ 3 * ls.length := by
  induction ls with
  | nil => exact Nat.le_refl _
  | cons l r ih =>
    show (nmW l ++ allN r).length ≤ _
    have := nmW_len (l := l)
    rw [List.length_append, List.length_cons]
    omega
theorem addW_app {F a b : List Ln} : addW F (a ++ b) = addW (addW F a) b := List.foldl_append
theorem addW_cons {F b : List Ln} {k : Ln} : addW F (k :: b) = addW (if k ∈ F then F else F ++ [k]) b := rfl
theorem addW_mem {F : List Ln} {x : Ln} : ∀ {ks : List Ln} , x ∈ addW F ks ↔ x ∈ F ∨ x ∈ ks := by
  intro ks
  induction ks generalizing F with
  | nil => exact ⟨.inl, fun h => h.elim id fun z => (List.not_mem_nil z).elim⟩
  | cons k r ih =>
    rw [addW_cons, ih]
    split
    · rename_i h
      refine ⟨fun z => z.elim .inl fun z => .inr (List.mem_cons_of_mem _ z), fun z => z.elim .inl fun z => ?_⟩
      rcases List.mem_cons.mp z with rfl | z
      · exact .inl h
      · exact .inr z
    · rw [List.mem_append, List.mem_singleton, List.mem_cons]
      exact ⟨fun z => z.elim (fun z => z.elim .inl fun z => .inr (.inl z)) fun z => .inr (.inr z), fun z => z.elim (fun z => .inl (.inl z)) fun z => z.elim (fun z => .inl (.inr z)) .inr⟩
theorem addW_len {F : List Ln} : ∀ {ks : List Ln}, (addW F ks).length ≤ F.length + ks.length := by
  intro ks
  induction ks generalizing F with
  | nil => exact Nat.le_refl _
  | cons k r ih =>
    rw [addW_cons]
    have := ih (F := if k ∈ F then F else F ++ [k])
    have h2 : (if k ∈ F then F else F ++ [k]).length ≤ F.length + 1 := by
      split
      · omega
      · rw [List.length_append]
        exact Nat.le_refl _
    rw [List.length_cons]
    omega
theorem addW_skip {F : List Ln} : ∀ {ks : List Ln}, (∀ k ∈ ks, k ∈ F) → addW F ks = F := by
  intro ks
  induction ks with
  | nil => intro _; rfl
  | cons k r ih =>
    intro h
    rw [addW_cons, if_pos (h k List.mem_cons_self)]
    exact ih fun x m => h x (List.mem_cons_of_mem _ m)
/-- what is there already may be left out ahead -/
theorem addW_filter {G F : List Ln} (h : ∀ x ∈ G, x ∈ F) : ∀ {ks : List Ln}, addW F (ks.filter fun k => !decide (k ∈ G)) = addW F ks := by
  intro ks
  induction ks generalizing F with
  | nil => rfl
  | cons k r ih =>
    by_cases c : k ∈ G
    · rw [List.filter_cons_of_neg (by rw [decide_eq_true c]; exact Bool.false_ne_true), addW_cons, if_pos (h k c)]
      exact ih h
    · rw [List.filter_cons_of_pos (by rw [decide_eq_false c]; rfl), addW_cons, addW_cons]
      split
      · exact ih h
      · exact ih fun x m => List.mem_append_left _ (h x m)
/-- and what comes twice -/
theorem addW_dd {F : List Ln} : ∀ {ks G : List Ln}, (∀ x ∈ G, x ∈ F) → addW F (addW G ks) = addW F ks := by
  intro ks
  induction ks generalizing F with
  | nil =>
    intro G h
    exact addW_skip h
  | cons k r ih =>
    intro G h
    rw [addW_cons, addW_cons]
    by_cases c : k ∈ G
    · rw [if_pos c, if_pos (h k c)]
      exact ih h
    · rw [if_neg c]
      have e : addW F (addW (G ++ [k]) r) = addW (if k ∈ F then F else F ++ [k]) (addW (G ++ [k]) r) := by
        split
        · rfl
        · rename_i nf
          have hd : ∀ (r : List Ln) (G : List Ln), ∃ t, addW G r = G ++ t := by
            intro r
            induction r with
            | nil => intro G; exact ⟨[], (List.append_nil _).symm⟩
            | cons x r ih =>
              intro G
              rw [addW_cons]
              split
              · exact ih G
              · obtain ⟨t, e⟩ := ih (G ++ [x])
                exact ⟨[x] ++ t, by rw [e, List.append_assoc]⟩
          obtain ⟨t, et⟩ := hd r (G ++ [k])
          rw [et, addW_app, addW_app, addW_app, addW_app, addW_skip h, addW_skip (F := F ++ [k]) fun x m => List.mem_append_left _ (h x m)]
          congr 1
          rw [addW_cons, addW_cons, if_neg nf, if_pos (List.mem_append_right _ (List.mem_singleton.mpr rfl))]
      rw [e]
      refine ih fun x m => ?_
      rcases List.mem_append.mp m with m | m
      · split
        · exact h x m
        · exact List.mem_append_left _ (h x m)
      · rw [List.mem_singleton.mp m]
        split
        · assumption
        · exact List.mem_append_right _ (List.mem_singleton.mpr rfl)
theorem dd_len {ks : List Ln} : (dd ks).length ≤ ks.length := by
  have := addW_len (F := []) (ks := ks)
  rw [List.length_nil, Nat.zero_add] at this
  exact this
theorem dd_app {a b : List Ln} : dd (a ++ b) = addW (dd a) b := addW_app
/-- found, and some more, of which some were found -/
theorem dd_more {F s : List Ln} : dd (F ++ s.filter fun k => !decide (k ∈ F)) = dd (F ++ s) := by
  rw [dd_app, dd_app]
  exact addW_filter fun x m => addW_mem.mpr (.inr m)
theorem dd_dd {F s t : List Ln} : dd (F ++ (s ++ dd t)) = dd (F ++ (s ++ t)) := by
  rw [dd_app, dd_app, addW_app, addW_app]
  exact addW_dd fun x m => (List.not_mem_nil m).elim
theorem dd_congr {F G s : List Ln} (h : dd F = dd G) : dd (F ++ s) = dd (G ++ s) := by rw [dd_app, dd_app, h]
theorem scan_cons {d : Nat} {l : Ln} {r : List Ln} : scan d (l :: r) = match stmL l with
    | none => none
    | some (w, _) => if w = wEnd then (if d = 0 then none else scan (d - 1) r) else if isBl w = true then (if d = 3 then none else scan (d + 1) r) else scan d r := rfl
theorem scan_app : ∀ {a b : List Ln} {d : Nat}, scan d (a ++ b) = (scan d a).bind fun e => scan e b
  | [], b, d => rfl
  | l :: r, b, d => by
    rw [List.cons_append, scan_cons, scan_cons]
    cases e : stmL l with
    | none => rfl
    | some x =>
      obtain ⟨w, vs⟩ := x
      dsimp only
      split
      · split
        · rfl
        · exact scan_app
      · split
        · split
          · rfl
          · exact scan_app
        · exact scan_app
/-- numbers and names of a read line -/
theorem num_nm {p : Ln} {n : Int} (h : numP p = some n) : isNm p = false := by
  cases e : isNm p with
  | false => rfl
  | true =>
    unfold isNm at e
    obtain ⟨h1, h2, h3, -⟩ := of_decide_eq_true e
    unfold numP at h
    split at h
    · cases h
    · rename_i c
      split at h
      · rename_i d
        cases p with
        | nil => exact absurd h1 (by decide)
        | cons c0 r =>
          have l0 : isLet c0 = true := List.all_eq_true.mp h3 c0 List.mem_cons_self
          have n45 : ¬ (c0 :: r).take 1 = [45] := fun z => by
            cases (List.cons.inj z).1
            cases l0
          have eb : bodyP (c0 :: r) = c0 :: r := if_neg n45
          rw [eb] at d
          have d0 : isDig c0 = true := List.all_eq_true.mp d c0 List.mem_cons_self
          have d0 := of_decide_eq_true d0
          have l0 := of_decide_eq_true l0
          omega
      · cases h
theorem read_nm {s : Nat} {p : Ln} {v : V} (h : readL s p = some v) : (numP p = none) = (s = 110) := by
  unfold readL at h
  split at h
  · rename_i c
    split at h
    · rename_i d
      refine propext ⟨fun _ => c, fun _ => ?_⟩
      cases e : numP p with
      | none => rfl
      | some n => rw [num_nm e] at d; cases d
    · cases h
  · rename_i c
    refine propext ⟨fun z => ?_, fun z => absurd z c⟩
    rw [z] at h
    cases h
def lawN (ls : List Ln) : List Ln := ls.flatMap fun l => ((TL.spl [32] 0 [] l).drop 1).filter fun p => (numP p).isNone
theorem nmS_law : ∀ {ss : List Nat} {ps : List Ln} {vs : List V}, readsL ss ps = some vs → ps.filter (fun p => (numP p).isNone) = nmS ss ps
  | [], [], _, _ => rfl
  | s :: ss, p :: ps, vs, h => by
    unfold readsL at h
    cases e : readL s p with
    | none => rw [e] at h; cases h
    | some v =>
      rw [e] at h
      dsimp only at h
      cases e2 : readsL ss ps with
      | none => rw [e2] at h; cases h
      | some us =>
        have ih := nmS_law e2
        have r := read_nm e
        unfold nmS
        by_cases c : s = 110
        · rw [if_pos c]
          rw [c] at r
          have hn : numP p = none := r.mpr rfl
          rw [List.filter_cons_of_pos (by rw [hn]; rfl), ih]
        · rw [if_neg c, List.filter_cons_of_neg (by
            cases en : numP p with
            | none => exact absurd (r.mp en) c
            | some n => exact Bool.false_ne_true), ih]
  | [], _ :: _, _, h => by cases h
  | _ :: _, [], _, h => by cases h
theorem nmW_law {l : Ln} (h : (stmL l).isSome = true) : ((TL.spl [32] 0 [] l).drop 1).filter (fun p => (numP p).isNone) = nmW l := by
  obtain ⟨⟨w, vs⟩, e⟩ := Option.isSome_iff_exists.mp h
  obtain ⟨r, s, e1, e2, e3, -, -, -⟩ := stm_is e
  unfold nmW
  rw [e1]
  dsimp only
  rw [e2]
  exact nmS_law e3
theorem lawN_eq {ls : List Ln} (h : ∀ l ∈ ls, (stmL l).isSome = true) : lawN ls = allN ls := by
  unfold lawN allN
  induction ls with
  | nil => rfl
  | cons l r ih =>
    rw [List.flatMap_cons, List.flatMap_cons, nmW_law (h l List.mem_cons_self), ih fun x m => h x (List.mem_cons_of_mem _ m)]
theorem scan_stm : ∀ {ls : List Ln} {d e : Nat}, scan d ls = some e → ∀ l ∈ ls, (stmL l).isSome = true
  | [], _, _, _, l, m => (List.not_mem_nil m).elim
  | x :: r, d, e, h, l, m => by
    unfold scan at h
    cases ex : stmL x with
    | none => rw [ex] at h; cases h
    | some y =>
      obtain ⟨w, vs⟩ := y
      rw [ex] at h
      dsimp only at h
      rcases List.mem_cons.mp m with rfl | m
      · rw [ex]
        rfl
      · split at h
        · split at h
          · cases h
          · exact scan_stm h l m
        · split at h
          · split at h
            · cases h
            · exact scan_stm h l m
          · exact scan_stm h l m

local macro_rules | `(tactic| walk_at "wt") => `(tactic| try simp only [↓x_var0, ↓x_varS, ↓x_c, ↓x_op, ↓x_un, ↓x_cb, ↓x_nil, ↓x_cons, ↓x_test, ↓x_b, ↓x_ex, ↓x_and, ↓x_or, ↓x_not, ↓x_andV, ↓x_orV, ↓x_notV, ↓x_tif, ↓x_chain, ↓x_menu, ↓x_menuI, ↓x_lst, ↓x_tup, ↓x_dnew, ↓x_callW, ↓x_callN, ↓x_seq, ↓x_next, ↓x_ret, ↓x_retN, ↓x_drop, ↓x_ifS, ↓x_asg, ↓x_name, ↓x_raise, ↓x_fld, ↓x_setF, ↓x_meth, ↓x_make, ↓x_sub, ↓r_min, ↓r_max, ↓x_yes, ↓x_for, ↓x_lock, ↓x_keys, ↓x_cut, ↓x_lc, ↓x_rng1, ↓x_rng2, ↓x_lst1, ↓x_itup, ↓x_rng3, ↓x_three, ↓x_lstg, ↓x_tupg, ↓x_adrS, ↓x_one, ↓x_two, ↓x_adr, ↓x_sl, ↓x_np, ↓x_pt, ↓x_int, ↓x_bm, ↓x_bm0, ↓x_consg, ↓x_nilg, ↓x_dget2, ↓x_dget1, ↓x_dgetN, ↓x_dget, ↓x_din, ↓x_dni, ↓x_dput, ↓x_dpop2, ↓r_isB, ↓r_notB, ↓x_enum, ↓x_zip, ↓x_str, ↓x_strE, ↓r_inS, ↓r_ninS, wipe, List.map_cons, List.map_nil, ↓x_isT, ↓r_isiII, ↓r_isiBB, ↓r_isiIB, ↓r_isiSS, ↓r_neNS, ↓r_neSN, ↓r_neNN, ↓r_eqNS, ↓r_eqSN, ↓r_eqNN, ↓r_eqIS, ↓r_neIS, ↓r_neSI, ↓r_neBS, ↓r_eqBB, ↓r_neBB, ↓x_start, ↓x_K, ↓x_start0, ↓r_i0, ↓r_i, ↓r_u, ↓r_addI, ↓r_addS, ↓r_mulI, ↓r_mulS, ↓r_eqI, ↓r_neI, ↓r_eqS, ↓r_neS, ↓r_absI, ↓r_intI, ↓r_intB, List.length_cons, List.length_nil, List.replicate, List.set_cons_zero, List.set_cons_succ, decide_eq_true_eq, Bool.not_eq_true', decide_eq_false_iff_not, if_true, if_false, Bool.false_eq_true, Bool.true_eq_false, ite_true, ite_false, Bool.not_true, Bool.not_false, c_div, n_ten, c_pow, not_true_eq_false, not_false_eq_true, decide_true, decide_false, true_and, and_true, and_self, true_or, or_true, Int.reduceLT, Int.reduceLE, Int.reduceMul, Int.reduceAdd, Int.reduceSub, Int.reducePow, Int.reduceNeg, Int.reduceDiv, Int.reduceMod, Nat.reducePow, Int.reduceToNat, Int.reduceEq, Int.reduceNe, Nat.reduceLT, Nat.reduceLeDiff, Nat.reduceAdd, ↓x_whole, ↓r_repS, ↓r_repS, ↓r_repS, ↓r_repS, ↓r_repS])
/-! ## what fits, by the law's tables -/
abbrev W10 : List Ln := [wMake, wKeep, wCopy, wDrop, wGet, wSet, wTell, wAgain, wIf, wEnd]
abbrev ZS : List Nat := [3, 3, 3, 2, 4, 4, 2, 2, 2, 1]
abbrev ZN : List Nat := [1, 1, 2, 1, 2, 2, 1, 0, 1, 0]
abbrev digW : List Ln := [[48], [49], [50], [51], [52], [53], [54], [55], [56], [57]]
def restW (w : Ln) (r : List Ln) : List Ln := if w = wSet then [r.getD 0 [], r.getD 2 [], r.getD 1 []] else r
theorem reads_cons {s : Nat} {ss : List Nat} {p : Ln} {ps : List Ln} : (readsL (s :: ss) (p :: ps)).isSome = ((readL s p).isSome && (readsL ss ps).isSome) := by
  conv => lhs; unfold readsL
  cases readL s p with
  | none => rfl
  | some v => cases readsL ss ps <;> rfl
theorem read_n {p : Ln} : (readL 110 p).isSome = isNm p := by
  unfold readL
  rw [if_pos rfl]
  cases isNm p <;> rfl
theorem read_c {p : Ln} : (readL 99 p).isSome = (numP p).isSome := by
  unfold readL
  rw [if_neg (by decide)]
  cases numP p with
  | none => rfl
  | some n =>
    dsimp only
    rw [if_neg (fun z => absurd z.1 (by decide))]
    rfl
theorem read_t {p : Ln} : (readL 116 p).isSome = true ↔ (numP p).isSome = true ∧ p ∈ digW := by
  unfold readL
  rw [if_neg (by decide)]
  cases e : numP p with
  | none => exact ⟨(fun z => by cases z), (fun z => by cases z.1)⟩
  | some n =>
    dsimp only
    have tab : ∀ m : Nat, m ≤ 9 → numP [48 + m] = some (m : Int) ∧ [48 + m] ∈ digW := by decide
    by_cases c : 0 ≤ n ∧ n ≤ 9
    · rw [if_neg (fun z => z.2 c)]
      obtain ⟨m, rfl⟩ := Int.eq_ofNat_of_zero_le c.1
      obtain ⟨h1, h2⟩ := tab m (by omega)
      rw [numP_inj e h1]
      exact ⟨(fun _ => ⟨rfl, h2⟩), (fun _ => rfl)⟩
    · rw [if_pos ⟨rfl, c⟩]
      refine ⟨(fun z => by cases z), fun z => ?_⟩
      have : ∃ m : Nat, m ≤ 9 ∧ p = [48 + m] := by
        have h := z.2
        simp only [List.mem_cons, List.not_mem_nil, or_false] at h
        rcases h with h | h | h | h | h | h | h | h | h | h
        · exact ⟨0, by decide, h⟩
        · exact ⟨1, by decide, h⟩
        · exact ⟨2, by decide, h⟩
        · exact ⟨3, by decide, h⟩
        · exact ⟨4, by decide, h⟩
        · exact ⟨5, by decide, h⟩
        · exact ⟨6, by decide, h⟩
        · exact ⟨7, by decide, h⟩
        · exact ⟨8, by decide, h⟩
        · exact ⟨9, by decide, h⟩
      obtain ⟨m, hm, ep⟩ := this
      rw [ep, (tab m hm).1] at e
      have := Option.some.inj e
      exact absurd ⟨by omega, by omega⟩ c
theorem reads_nil : (readsL [] []).isSome = true := rfl
theorem fits_iff {w : Ln} {r : List Ln} {k : Nat} (hk : W10[k]? = some w) (hl : r.length + 1 = ZS.getD k 0) : ∃ s, shpL w = some s ∧ ((readsL s r).isSome = true ↔ ((∀ x ∈ (restW w r).take (ZN.getD k 0), isNm x = true) ∧ (∀ x ∈ (restW w r).drop (ZN.getD k 0), (numP x).isSome = true) ∧ (w = wAgain → r.getD 0 [] ∈ digW))) := by
  have l1 : ∀ {r : List Ln}, r.length + 1 = 2 → ∃ x, r = [x] := fun {r} h => List.length_eq_one_iff.mp (by omega)
  have l2 : ∀ {r : List Ln}, r.length + 1 = 3 → ∃ x y, r = [x, y] := fun {r} h => by
    cases r with
    | nil => cases h
    | cons x r =>
      obtain ⟨y, rfl⟩ := l1 (r := r) (by rw [List.length_cons] at h; omega)
      exact ⟨x, y, rfl⟩
  have l3 : ∀ {r : List Ln}, r.length + 1 = 4 → ∃ x y z, r = [x, y, z] := fun {r} h => by
    cases r with
    | nil => cases h
    | cons x r =>
      obtain ⟨y, z, rfl⟩ := l2 (r := r) (by rw [List.length_cons] at h; omega)
      exact ⟨x, y, z, rfl⟩
  match k, hk, hl with
  | 0, hk, hl =>
    cases hk
    obtain ⟨x, y, rfl⟩ := l2 hl
    refine ⟨[110, 99], by decide, ?_⟩
    rw [reads_cons, reads_cons, reads_nil, read_n, read_c]
    simp [restW]
  | 1, hk, hl =>
    cases hk
    obtain ⟨x, y, rfl⟩ := l2 hl
    refine ⟨[110, 99], by decide, ?_⟩
    rw [reads_cons, reads_cons, reads_nil, read_n, read_c]
    simp [restW]
  | 2, hk, hl =>
    cases hk
    obtain ⟨x, y, rfl⟩ := l2 hl
    refine ⟨[110, 110], by decide, ?_⟩
    rw [reads_cons, reads_cons, reads_nil, read_n, read_n]
    simp [restW]
  | 3, hk, hl =>
    cases hk
    obtain ⟨x, rfl⟩ := l1 hl
    refine ⟨[110], by decide, ?_⟩
    rw [reads_cons, reads_nil, read_n]
    simp [restW]
  | 4, hk, hl =>
    cases hk
    obtain ⟨x, y, z, rfl⟩ := l3 hl
    refine ⟨[110, 110, 99], by decide, ?_⟩
    rw [reads_cons, reads_cons, reads_cons, reads_nil, read_n, read_n, read_c]
    simp [restW, and_assoc]
  | 5, hk, hl =>
    cases hk
    obtain ⟨x, y, z, rfl⟩ := l3 hl
    refine ⟨[110, 99, 110], by decide, ?_⟩
    rw [reads_cons, reads_cons, reads_cons, reads_nil, read_n, read_c, read_n]
    simp [restW]
    constructor
    · rintro ⟨a, b, c⟩
      exact ⟨⟨a, c⟩, b⟩
    · rintro ⟨⟨a, c⟩, b⟩
      exact ⟨a, b, c⟩
  | 6, hk, hl =>
    cases hk
    obtain ⟨x, rfl⟩ := l1 hl
    refine ⟨[110], by decide, ?_⟩
    rw [reads_cons, reads_nil, read_n]
    simp [restW]
  | 7, hk, hl =>
    cases hk
    obtain ⟨x, rfl⟩ := l1 hl
    refine ⟨[116], by decide, ?_⟩
    rw [reads_cons, reads_nil, Bool.and_true, read_t]
    simp [restW]
  | 8, hk, hl =>
    cases hk
    obtain ⟨x, rfl⟩ := l1 hl
    refine ⟨[110], by decide, ?_⟩
    rw [reads_cons, reads_nil, read_n]
    simp [restW]
  | 9, hk, hl =>
    cases hk
    have er : r = [] := List.eq_nil_of_length_eq_zero (by
      have hl : r.length + 1 = 1 := hl
      omega)
    subst er
    refine ⟨[], by decide, ?_⟩
    rw [reads_nil]
    simp [restW]
  | k + 10, hk, hl => cases hk

local macro_rules | `(tactic| walk_at "wt") => `(tactic| try simp only [↓x_var0, ↓x_varS, ↓x_c, ↓x_op, ↓x_un, ↓x_cb, ↓x_nil, ↓x_cons, ↓x_test, ↓x_b, ↓x_ex, ↓x_and, ↓x_or, ↓x_not, ↓x_andV, ↓x_orV, ↓x_notV, ↓x_tif, ↓x_chain, ↓x_menu, ↓x_menuI, ↓x_lst, ↓x_tup, ↓x_dnew, ↓x_callW, ↓x_callN, ↓x_seq, ↓x_next, ↓x_ret, ↓x_retN, ↓x_drop, ↓x_ifS, ↓x_asg, ↓x_name, ↓x_raise, ↓x_fld, ↓x_setF, ↓x_meth, ↓x_make, ↓x_sub, ↓r_min, ↓r_max, ↓x_yes, ↓x_for, ↓x_lock, ↓x_keys, ↓x_cut, ↓x_lc, ↓x_rng1, ↓x_rng2, ↓x_lst1, ↓x_itup, ↓x_rng3, ↓x_three, ↓x_lstg, ↓x_tupg, ↓x_adrS, ↓x_one, ↓x_two, ↓x_adr, ↓x_sl, ↓x_np, ↓x_pt, ↓x_int, ↓x_bm, ↓x_bm0, ↓x_consg, ↓x_nilg, ↓x_dget2, ↓x_dget1, ↓x_dgetN, ↓x_dget, ↓x_din, ↓x_dni, ↓x_dput, ↓x_dpop2, ↓r_isB, ↓r_notB, ↓x_enum, ↓x_zip, ↓x_str, ↓x_strE, ↓r_inS, ↓r_ninS, wipe, List.map_cons, List.map_nil, ↓x_isT, ↓r_isiII, ↓r_isiBB, ↓r_isiIB, ↓r_isiSS, ↓r_neNS, ↓r_neSN, ↓r_neNN, ↓r_eqNS, ↓r_eqSN, ↓r_eqNN, ↓r_eqIS, ↓r_neIS, ↓r_neSI, ↓r_neBS, ↓r_eqBB, ↓r_neBB, ↓x_start, ↓x_K, ↓x_start0, ↓r_i0, ↓r_i, ↓r_u, ↓r_addI, ↓r_addS, ↓r_mulI, ↓r_mulS, ↓r_eqI, ↓r_neI, ↓r_eqS, ↓r_neS, ↓r_absI, ↓r_intI, ↓r_intB, List.length_cons, List.length_nil, List.replicate, List.set_cons_zero, List.set_cons_succ, decide_eq_true_eq, Bool.not_eq_true', decide_eq_false_iff_not, if_true, if_false, Bool.false_eq_true, Bool.true_eq_false, ite_true, ite_false, Bool.not_true, Bool.not_false, c_div, n_ten, c_pow, not_true_eq_false, not_false_eq_true, decide_true, decide_false, true_and, and_true, and_self, true_or, or_true, Int.reduceLT, Int.reduceLE, Int.reduceMul, Int.reduceAdd, Int.reduceSub, Int.reducePow, Int.reduceNeg, Int.reduceDiv, Int.reduceMod, Nat.reducePow, Int.reduceToNat, Int.reduceEq, Int.reduceNe, Nat.reduceLT, Nat.reduceLeDiff, Nat.reduceAdd, ↓x_whole, ↓r_repS, ↓r_repS, ↓r_repS, ↓r_repS, ↓r_repS, ↓r_repS, ↓x_zipS])
/-! ## programs in the heap -/
theorem inV_S {w : Ln} {ps : List Ln} : inV (.str (Sg w)) (SgL ps) = decide (w ∈ ps) := by
  unfold inV SgL
  induction ps with
  | nil => rfl
  | cons p r ih =>
    rw [List.map_cons, List.any_cons, ih]
    show ((Sg p == Sg w) || _) = _
    by_cases c : p = w
    · subst c
      rw [beq_self_eq_true, Bool.true_or, decide_eq_true List.mem_cons_self]
    · rw [beq_false_of_ne fun z => c (Sg_inj.mp z), Bool.false_or]
      congr 1
      rw [List.mem_cons]
      exact propext ⟨.inr, fun z => z.elim (fun z => absurd z.symm c) id⟩
def optS : Option Ln → V
  | some s => .str (Sg s)
  | none => .non
theorem opt_none {o : Option Ln} : optS o = .non ↔ o = none := by
  cases o with
  | none => exact ⟨(fun _ => rfl), (fun _ => rfl)⟩
  | some s => exact ⟨(fun z => by cases z), (fun z => by cases z)⟩
def Chunks (P : Addr → List Ln → Prop) : List Addr → List Ln → Prop
  | [], ls => ls = []
  | r :: rs, ls => ∃ a b, ls = a ++ b ∧ P r a ∧ Chunks P rs b
theorem Chunks.mono {P P' : Addr → List Ln → Prop} (h : ∀ r a, P r a → P' r a) : ∀ {rs : List Addr} {ls : List Ln}, Chunks P rs ls → Chunks P' rs ls
  | [], _, z => z
  | _ :: _, _, ⟨a, b, e, p, c⟩ => ⟨a, b, e, h _ _ p, Chunks.mono h c⟩
theorem Chunks.snoc {P : Addr → List Ln → Prop} {r : Addr} {c : List Ln} (h : P r c) : ∀ {rs : List Addr} {ls : List Ln}, Chunks P rs ls → Chunks P (rs ++ [r]) (ls ++ c)
  | [], _, z => by
    cases z
    exact ⟨c, [], (List.append_nil _).symm, h, rfl⟩
  | _ :: _, _, ⟨a, b, e, p, q⟩ => ⟨a, b ++ c, by rw [e, List.append_assoc], p, Chunks.snoc h q⟩
theorem Chunks.len {P : Addr → List Ln → Prop} (h : ∀ r a, P r a → a ≠ []) : ∀ {rs : List Addr} {ls : List Ln}, Chunks P rs ls → rs.length ≤ ls.length
  | [], _, _ => Nat.zero_le _
  | _ :: _, _, ⟨a, b, e, p, q⟩ => by
    have := Chunks.len h q
    have : a.length ≠ 0 := fun z => h _ _ p (List.eq_nil_of_length_eq_zero z)
    rw [e, List.length_append, List.length_cons]
    omega
theorem Chunks.at {P : Addr → List Ln → Prop} : ∀ {rs : List Addr} {ls : List Ln} {i : Nat} {r : Addr}, Chunks P rs ls → rs[i]? = some r → ∃ a b c, ls = a ++ (b ++ c) ∧ Chunks P (rs.take i) a ∧ P r b
  | r' :: rs, ls, 0, r, ⟨a, b, e, p, q⟩, h => by
    cases h
    exact ⟨[], a, b, e, rfl, p⟩
  | r' :: rs, ls, i + 1, r, ⟨a, b, e, p, q⟩, h => by
    obtain ⟨a', b', c', e', q', p'⟩ := Chunks.at (i := i) q h
    exact ⟨a ++ a', b', c', by rw [e, e', List.append_assoc], ⟨a, a', rfl, p, q'⟩, p'⟩
  | [], _, _, _, _, h => by cases h
/-- the lines of the first statements are determined by them -/
def Plain (H : Hp) (r : Addr) (ls : List Ln) : Prop := ∃ l w vs, stmL l = some (w, vs) ∧ isBl w = false ∧ w ≠ wEnd ∧ ls = [l] ∧ H r = some (.tup (.str (Sg w) :: vs))
def StaAt : Nat → Hp → (Addr → Prop) → Addr → List Ln → Prop
  | 0, H, _, r, ls => Plain H r ls
  | n + 1, H, N, r, ls => Plain H r ls ∨ ∃ l w vs q inner rs, stmL l = some (w, vs) ∧ isBl w = true ∧ ls = l :: (inner ++ [wEnd]) ∧ H r = some (.tup (.str (Sg w) :: (vs ++ [.ref q]))) ∧ N q ∧ H q = some (.lst (rs.map V.ref)) ∧ Chunks (StaAt n H N) rs inner
theorem StaAt.fr {H H' : Hp} {N N' : Addr → Prop} (kt : ∀ c xs, H c = some (.tup xs) → H' c = some (.tup xs)) (kl : ∀ q xs, N q → H q = some (.lst xs) → N' q ∧ H' q = some (.lst xs)) : ∀ {n : Nat} {r : Addr} {ls : List Ln}, StaAt n H N r ls → StaAt n H' N' r ls
  | 0, r, ls, ⟨l, w, vs, a, b, c, d, e⟩ => ⟨l, w, vs, a, b, c, d, kt _ _ e⟩
  | n + 1, r, ls, .inl ⟨l, w, vs, a, b, c, d, e⟩ => .inl ⟨l, w, vs, a, b, c, d, kt _ _ e⟩
  | n + 1, r, ls, .inr ⟨l, w, vs, q, inner, rs, a, b, c, d, e, f, g⟩ => .inr ⟨l, w, vs, q, inner, rs, a, b, c, kt _ _ d, (kl _ _ e f).1, (kl _ _ e f).2, g.mono fun _ _ h => StaAt.fr kt kl h⟩
theorem StaAt.ne {H : Hp} {N : Addr → Prop} : ∀ {n : Nat} {r : Addr} {ls : List Ln}, StaAt n H N r ls → ls ≠ []
  | 0, _, _, ⟨_, _, _, _, _, _, d, _⟩ => by rw [d]; exact List.cons_ne_nil _ _
  | _ + 1, _, _, .inl ⟨_, _, _, _, _, _, d, _⟩ => by rw [d]; exact List.cons_ne_nil _ _
  | _ + 1, _, _, .inr ⟨_, _, _, _, _, _, _, _, c, _⟩ => by rw [c]; exact List.cons_ne_nil _ _
/-- the tuple of a statement -/
theorem StaAt.tup {H : Hp} {N : Addr → Prop} : ∀ {n : Nat} {r : Addr} {ls : List Ln}, StaAt n H N r ls → ∃ l w vs, stmL l = some (w, vs) ∧ ((isBl w = false ∧ w ≠ wEnd ∧ ls = [l] ∧ H r = some (.tup (.str (Sg w) :: vs))) ∨ ∃ m q inner rs, n = m + 1 ∧ isBl w = true ∧ ls = l :: (inner ++ [wEnd]) ∧ H r = some (.tup (.str (Sg w) :: (vs ++ [.ref q]))) ∧ N q ∧ H q = some (.lst (rs.map V.ref)) ∧ Chunks (StaAt m H N) rs inner)
  | 0, _, _, ⟨l, w, vs, a, b, c, d, e⟩ => ⟨l, w, vs, a, .inl ⟨b, c, d, e⟩⟩
  | _ + 1, _, _, .inl ⟨l, w, vs, a, b, c, d, e⟩ => ⟨l, w, vs, a, .inl ⟨b, c, d, e⟩⟩
  | m + 1, _, _, .inr ⟨l, w, vs, q, inner, rs, a, b, c, d, e, f, g⟩ => ⟨l, w, vs, a, .inr ⟨m, q, inner, rs, rfl, b, c, d, e, f, g⟩⟩
structure ProgAt (n : Nat) (H : Hp) (N : Addr → Prop) (p : Addr) (ls : List Ln) : Prop where
  np : N p
  pr : ∃ rs, H p = some (.lst (rs.map V.ref)) ∧ Chunks (StaAt n H N) rs ls
theorem ProgAt.fr {n : Nat} {H H' : Hp} {N N' : Addr → Prop} {p : Addr} {ls : List Ln} (h : ProgAt n H N p ls) (kt : ∀ c xs, H c = some (.tup xs) → H' c = some (.tup xs)) (kl : ∀ q xs, N q → H q = some (.lst xs) → N' q ∧ H' q = some (.lst xs)) : ProgAt n H' N' p ls := by
  obtain ⟨rs, h1, h2⟩ := h.pr
  exact ⟨(kl _ _ h.np h1).1, rs, (kl _ _ h.np h1).2, h2.mono fun _ _ g => g.fr kt kl⟩
theorem ProgAt.same {n : Nat} {H H' : Hp} {N : Addr → Prop} {p : Addr} {ls : List Ln} (h : ProgAt n H N p ls) (s : Same H H') : ProgAt n H' N p ls := h.fr (fun c xs g => s _ _ g) fun q xs n g => ⟨n, s _ _ g⟩
/-! ## lines read -/
def sp_shape_of (_ : PySem.W.Frag) : Sp := fun vs H Q _ => ∃ w, vs = [.str (Sg w)] ∧ ∀ H', Same H H' → Q (optS (shpL w)) H'
def sp_need_name (K : PySem.W.Frag) : Sp := fun vs H Q E => ∃ p, vs = [.str (Sg p)] ∧ p.length ≤ 1000000 ∧ ∀ H', Same H H' → if isNm p = true then Q (.str (Sg p)) H' else E (Ex K "NoProgram") none H'
def sp_need_count (K : PySem.W.Frag) : Sp := fun vs H Q E => ∃ p, vs = [.str (Sg p)] ∧ p.length ≤ 1000000 ∧ ∀ H', Same H H' → match numP p with
  | none => E (Ex K "NoProgram") none H'
  | some n => Q (.int n) H'
def sp_read_part (K : PySem.W.Frag) : Sp := fun vs H Q E => ∃ p s, vs = [.str (Sg p), .str (Sg [s])] ∧ p.length ≤ 1000000 ∧ ∀ H', Same H H' → match readL s p with
  | none => E (Ex K "NoProgram") none H'
  | some v => Q v H'
def sp_statement_of (K : PySem.W.Frag) : Sp := fun vs H Q E => ∃ l, vs = [.str (Sg l)] ∧ l.length ≤ 1000000 ∧ match stmL l with
  | none => ∀ H', Same H H' → E (Ex K "NoProgram") none H'
  | some (w, vs) => ∀ t H', H t = none → Same H H' → H' t = some (.tup (.str (Sg w) :: vs)) → Q (.ref t) H'
def sp_is_block (_ : PySem.W.Frag) : Sp := fun vs H Q _ => ∃ t w us, vs = [.ref t] ∧ H t = some (.tup (.str (Sg w) :: us)) ∧ Q (.bl (isBl w)) H
def sp_names_in (_ : PySem.W.Frag) : Sp := fun vs H Q _ => ∃ t l w us more, vs = [.ref t] ∧ stmL l = some (w, us) ∧ H t = some (.tup (.str (Sg w) :: (us ++ more))) ∧ more.length ≤ 1 ∧ ∀ q H', H q = none → Same H H' → H' q = some (.lst (SgL (nmW l))) → Q (.ref q) H'
theorem nmS_take : ∀ {ss : List Nat} {ps : List Ln} {i c : Nat} {p : Ln}, ss[i]? = some c → ps[i]? = some p → nmS (ss.take (i + 1)) (ps.take (i + 1)) = nmS (ss.take i) (ps.take i) ++ if c = 110 then [p] else []
  | s :: ss, q :: ps, 0, c, p, h1, h2 => by
    cases h1
    cases h2
    show nmS [s] [q] = [] ++ _
    unfold nmS
    split <;> rfl
  | s :: ss, q :: ps, i + 1, c, p, h1, h2 => by
    have ih := nmS_take (i := i) (ss := ss) (ps := ps) h1 h2
    rw [List.take_succ_cons, List.take_succ_cons, List.take_succ_cons, List.take_succ_cons]
    show nmS (s :: ss.take (i + 1)) (q :: ps.take (i + 1)) = nmS (s :: ss.take i) (q :: ps.take i) ++ _
    unfold nmS
    rw [ih]
    split <;> rfl
  | [], _, _, _, _, h, _ => by cases h
  | _ :: _, [], _, _, _, _, h => by cases h
section
variable {P : Program} {w : World} {K : PySem.W.Frag} {mg : Str → Option Value} {base : Heap}
theorem f_shape_of (T : Tx K mg) : Fn P w K mg base 1 "shape_of" ["word"] (sp_shape_of K) := by
  refine T.mkFn 1 15 (d := d_shape_of) (N := ["word"]) (k := 0) rfl rfl rfl rfl rfl sc_shape_of (fun _ _ _ _ _ _ us hl => match us, hl with | [_], _ => rfl) (fun vs H Q E h => ?len) (fun cdv A outer s H vs Q E hr h => ⟨_,
      (pss_cons (ps_if (pt_cmpR (op_inTG (K := K) rfl (hu65 hr)) (pv 0) (pe_tup (pa_cons pe_str (pa_cons pe_str (pa_cons pe_str pa_nil)))) (by rfl)) (pss_one (ps_ret pe_str)) pss_nil)
        (pss_cons (ps_if (pt_cmpR (op_inTG (K := K) rfl (hu65 hr)) (pv 0) (pe_tup (pa_cons pe_str (pa_cons pe_str pa_nil))) (by rfl)) (pss_one (ps_ret pe_str)) pss_nil)
        (pss_cons (ps_if (pt_cmpR (op_eqK (K := K) rfl hr.units) (pv 0) pe_str (nomark _)) (pss_one (ps_ret pe_str)) pss_nil)
        (pss_cons (ps_if (pt_cmpR (op_eqK (K := K) rfl hr.units) (pv 0) pe_str (nomark _)) (pss_one (ps_ret pe_str)) pss_nil)
        (pss_cons (ps_if (pt_cmpR (op_eqK (K := K) rfl hr.units) (pv 0) pe_str (nomark _)) (pss_one (ps_ret pe_str)) pss_nil)
        (pss_cons (ps_if (pt_cmpR (op_eqK (K := K) rfl hr.units) (pv 0) pe_str (nomark _)) (pss_one (ps_ret pe_str)) pss_nil)
        (pss_cons (ps_if (pt_cmpR (op_eqK (K := K) rfl hr.units) (pv 0) pe_str (nomark _)) (pss_one (ps_ret pe_str)) pss_nil)
        (pss_one (ps_ret pe_non))))))))), ?rd⟩)
  case len => obtain ⟨_, rfl, _⟩ := h; rfl
  case rd =>
    obtain ⟨w, rfl, q⟩ := h
    have sz : 1000 ≤ sizeLine := by rw [sizeLine_eq]; omega
    obtain ⟨z1, z2, z3, z4, z5, z6, z7, z8, z9, z10⟩ := lits
    obtain ⟨y1, y2, y3, y4, y5, y6, y7, y8⟩ := lits2
    unfold shpL at q
    walk_at "wt"
    refine ⟨by omega, fun t1 n1 => r_inT (xs := SgL [wDrop, wTell, wIf]) (by rw [z4, z7, z9]; exact upd_same) rfl SgL_flat ?_⟩
    have s1 := same_new (o := .tup [.str "drop", .str "tell", .str "if"]) n1
    refine ⟨_, rfl, ?_⟩
    rw [inV_S]
    by_cases c1 : w = wDrop ∨ w = wTell ∨ w = wIf
    · rw [if_pos c1] at q
      rw [if_pos (decide_eq_true (by simp only [List.mem_cons, List.not_mem_nil, or_false]; exact c1)), y1]
      exact q _ s1
    rw [if_neg c1] at q
    rw [if_neg (fun z => c1 (by have z := of_decide_eq_true z; simp only [List.mem_cons, List.not_mem_nil, or_false] at z; exact z))]
    refine ⟨by omega, fun t2 n2 => r_inT (xs := SgL [wMake, wKeep]) (by rw [z1, z2]; exact upd_same) rfl SgL_flat ?_⟩
    have s2 := s1.trans (same_new (o := .tup [.str "make", .str "keep"]) n2)
    refine ⟨_, rfl, ?_⟩
    rw [inV_S]
    by_cases c2 : w = wMake ∨ w = wKeep
    · rw [if_pos c2] at q
      rw [if_pos (decide_eq_true (by simp only [List.mem_cons, List.not_mem_nil, or_false]; exact c2)), y2]
      exact q _ s2
    rw [if_neg c2] at q
    rw [if_neg (fun z => c2 (by have z := of_decide_eq_true z; simp only [List.mem_cons, List.not_mem_nil, or_false] at z; exact z))]
    walk_at "wt"
    rw [z3, z5, z6, z8, z10]
    simp only [Sg_inj]
    by_cases c3 : w = wCopy
    · rw [if_pos c3] at q ⊢
      rw [y3]
      exact q _ s2
    rw [if_neg c3] at q ⊢
    by_cases c4 : w = wGet
    · rw [if_pos c4] at q ⊢
      rw [y4]
      exact q _ s2
    rw [if_neg c4] at q ⊢
    by_cases c5 : w = wSet
    · rw [if_pos c5] at q ⊢
      rw [y5]
      exact q _ s2
    rw [if_neg c5] at q ⊢
    by_cases c6 : w = wAgain
    · rw [if_pos c6] at q ⊢
      rw [y6]
      exact q _ s2
    rw [if_neg c6] at q ⊢
    by_cases c7 : w = wEnd
    · rw [if_pos c7] at q ⊢
      rw [y7]
      exact q _ s2
    rw [if_neg c7] at q ⊢
    exact q _ s2
theorem f_need_name (T : Tx K mg) : Fn P w K mg base 2 "need_name" ["part"] (sp_need_name K) := by
  have c_shape_of := f_shape_of (P := P) (w := w) (base := base) T
  refine T.mkFn 2 16 (d := d_need_name) (N := ["part", "sign"]) (k := 1) rfl rfl rfl rfl rfl sc_need_name (fun _ _ _ _ _ _ us hl => match us, hl with | [_], _ => rfl) (fun vs H Q E h => ?len) (fun cdv A outer s H vs Q E hr h => ⟨_,
      (pss_cons (ps_if (PW.pt (pw_or (pt_not (pt_chain op_le op_le pe_int (pe_callB (call_lenK (K := K) rfl) (by rfl) (T.free 50) PySem.boot_len (pa_cons (pv 0) pa_nil)) (pe_num (T.num 45) (by rfl)))) (pw_or1 (pt_cmpR op_notN (pe_fn (takes_of rfl rfl rfl rfl) c_shape_of (hr.mono (by decide)) (by rfl) (pa_cons (pv 0) pa_nil)) pe_non (nomark _))))) (pss_one (ps_raiseK (K := K) rfl rfl (takes_of rfl rfl rfl rfl) (T.says.fact 73 rfl) (T.glo 13) (by rfl))) pss_nil)
        (pss_cons (ps_for (passes_of rfl) rfl (pi_str (pv 0)) (pg_name (i := 1) sc_need_name.nd rfl (Or.inl rfl)) (pss_one (ps_if (pt_cmpR op_gNinS (pv 1) (pe_txt (T.txt 44) (by rfl)) (by rfl)) (pss_one (ps_raiseK (K := K) rfl rfl (takes_of rfl rfl rfl rfl) (T.says.fact 73 rfl) (T.glo 13) (by rfl))) pss_nil)))
        (pss_one (ps_ret (pv 0))))), ?rd⟩)
  case len => obtain ⟨_, rfl, _⟩ := h; rfl
  case rd =>
    obtain ⟨p, rfl, hl, q⟩ := h
    have sz : 10000000 ≤ sizeLine := by rw [sizeLine_eq]; omega
    have bad : ∀ H', Same H H' → ¬ (1 ≤ p.length ∧ p.length ≤ 8 ∧ p.all isLet = true ∧ shpL p = none) → E (Ex K "NoProgram") none H' := fun H' s e => by
      have := q H' s
      rw [show isNm p = false from decide_eq_false e] at this
      exact this
    walk_at "wt"
    refine r_lenStr ⟨by omega, ?_⟩
    walk_at "wt"
    by_cases c1 : (1 : Int) ≤ p.length
    · rw [if_pos c1]
      by_cases c2 : (p.length : Int) ≤ 8
      · rw [if_neg (fun z => z c2)]
        refine ⟨p, rfl, fun H2 s2 => ?_⟩
        cases e : shpL p with
        | some s =>
          rw [if_pos (show ¬ optS (some s) = .non from fun z => by cases z)]
          exact bad _ s2 fun z => by rw [e] at z; cases z.2.2.2
        | none =>
          rw [if_neg (show ¬ ¬ optS none = .non from fun z => z rfl)]
          refine forW_str (fun i σ H => H = H2 ∧ (∀ c ∈ p.take i, isLet c = true) ∧ ∃ o, σ = [some (V.str (Sg p)), o]) ⟨rfl, (fun c m => by rw [List.take_zero] at m; exact (List.not_mem_nil m).elim), _, rfl⟩ ?_ ?_
          · rintro i c σ H' ec ⟨rfl, ad, o, rfl⟩
            walk_at "wt"
            simp only [let_inP]
            cases ed : isLet c with
            | false =>
              walk_at "wt"
              exact bad _ s2 fun z => by
                have := List.all_eq_true.mp z.2.2.1 c (List.mem_of_getElem? ec)
                rw [ed] at this
                cases this
            | true =>
              walk_at "wt"
              refine ⟨fun d m => ?_, _, rfl⟩
              rw [List.take_add_one, ec] at m
              rcases List.mem_append.mp m with m | m
              · exact ad d m
              · rw [List.mem_singleton.mp m]
                exact ed
          · rintro σ H' ⟨rfl, ad, o, rfl⟩
            rw [List.take_length] at ad
            walk_at "wt"
            have := q _ s2
            rw [show isNm p = true from decide_eq_true ⟨by omega, by omega, List.all_eq_true.mpr ad, e⟩] at this
            exact this
      · rw [if_pos c2]
        exact bad _ (Same.refl _) fun z => by omega
    · rw [if_neg c1]
      exact bad _ (Same.refl _) fun z => by omega
theorem f_need_count (T : Tx K mg) : Fn P w K mg base 2 "need_count" ["part"] (sp_need_count K) := by
  have z_number_of := fz_number_of (P := P) (w := w) (base := base) T
  refine T.mkFn 3 17 (d := d_need_count) (N := ["part"]) (k := 1) rfl rfl rfl rfl rfl sc_need_count (fun _ _ _ _ _ _ us hl => match us, hl with | [_], _ => rfl) (fun vs H Q E h => ?len) (fun cdv A outer s H vs Q E hr h => ⟨_,
      (pss_one (L2H.ps_try_onlyX rfl rfl ⟨by rfl, by decide, Or.inl (T.glo 11)⟩ (fun hd => L2H.passesAt_of rfl hd) (takes_of rfl rfl rfl rfl) (fun W pn xe tk tk2 po => (pss_one (ps_ret (pe_fnZ tk z_number_of (hr.mono (by decide)) (by rfl) (pa_cons (pv 0) pa_nil))))) (fun a oe cls d pn zn hf tk hc => pss_one (ps_raiseHK (K := K) rfl hc tk (T.says.fact 73 rfl) (T.glo 13) (by rfl))))), ?rd⟩)
  case len => obtain ⟨_, rfl, _⟩ := h; rfl
  case rd =>
    obtain ⟨p, rfl, hl, q⟩ := h
    walk_at "wt"
    refine ⟨p, rfl, hl, ?_⟩
    have q := q _ (Same.refl _)
    cases e : numP p with
    | none =>
      rw [e] at q
      exact ⟨true, by rw [((T.err (d := "NoDeed") (by decide +kernel)).2.2 "NoDeed" (by decide +kernel)).2]; decide +kernel, fun _ a na => q, fun z => by cases z⟩
    | some n =>
      rw [e] at q
      exact q
theorem f_read_part (T : Tx K mg) : Fn P w K mg base 3 "read_part" ["part", "sort"] (sp_read_part K) := by
  have c_need_name := f_need_name (P := P) (w := w) (base := base) T
  have c_need_count := f_need_count (P := P) (w := w) (base := base) T
  refine T.mkFn 4 18 (d := d_read_part) (N := ["part", "sort", "number"]) (k := 2) rfl rfl rfl rfl rfl sc_read_part (fun _ _ _ _ _ _ us hl => match us, hl with | [_, _], _ => rfl) (fun vs H Q E h => ?len) (fun cdv A outer s H vs Q E hr h => ⟨_,
      (pss_cons (ps_if (pt_cmpR (op_eqK (K := K) rfl hr.units) (pv 1) pe_str (nomark _)) (pss_one (ps_ret (pe_fn (takes_of rfl rfl rfl rfl) c_need_name (hr.mono (by decide)) (by rfl) (pa_cons (pv 0) pa_nil)))) pss_nil)
        (pss_cons (ps_set (i := 2) sc_read_part.nd rfl (Or.inl rfl) (pe_fn (takes_of rfl rfl rfl rfl) c_need_count (hr.mono (by decide)) (by rfl) (pa_cons (pv 0) pa_nil)))
        (pss_cons (ps_if (PW.pt (pw_and (pt_cmpR (op_eqK (K := K) rfl hr.units) (pv 1) pe_str (nomark _)) (pw_and1 (pt_not (pt_chain op_le op_le pe_int (pv 2) (pe_num (T.num 47) (by rfl))))))) (pss_one (ps_raiseK (K := K) rfl rfl (takes_of rfl rfl rfl rfl) (T.says.fact 73 rfl) (T.glo 13) (by rfl))) pss_nil)
        (pss_one (ps_ret (pv 2)))))), ?rd⟩)
  case len => obtain ⟨_, _, rfl, _⟩ := h; rfl
  case rd =>
    obtain ⟨p, s, rfl, hl, q⟩ := h
    obtain ⟨y1, y2, y3, y4, y5, y6, y7, y8⟩ := lits2
    walk_at "wt"
    rw [y1, y6]
    simp only [Sg_inj, List.cons.injEq, and_true]
    unfold readL at q
    by_cases c : s = 110
    · rw [if_pos c] at q ⊢
      refine ⟨p, rfl, hl, fun H' s' => ?_⟩
      have q := q H' s'
      cases e : isNm p with
      | true =>
        rw [e] at q
        rw [if_pos rfl]
        exact q
      | false =>
        rw [e] at q
        rw [if_neg Bool.false_ne_true]
        exact q
    rw [if_neg c] at q ⊢
    refine ⟨p, rfl, hl, fun H' s' => ?_⟩
    have q := q H' s'
    cases e : numP p with
    | none =>
      rw [e] at q
      exact q
    | some n =>
      rw [e] at q
      dsimp only at q ⊢
      by_cases c2 : s = 116
      · rw [if_pos c2]
        walk_at "wt"
        by_cases c3 : 0 ≤ n
        · rw [if_pos c3]
          by_cases c4 : n ≤ 9
          · rw [if_neg (fun z => z c4)]
            rw [if_neg (fun z => z.2 ⟨c3, c4⟩)] at q
            exact q
          · rw [if_pos c4]
            rw [if_pos ⟨c2, fun z => c4 z.2⟩] at q
            exact q
        · rw [if_neg c3]
          rw [if_pos ⟨c2, fun z => c3 z.1⟩] at q
          exact q
      · rw [if_neg c2]
        rw [if_neg (fun z => c2 z.1)] at q
        exact q
theorem f_is_block (T : Tx K mg) : Fn P w K mg base 1 "is_block" ["statement"] (sp_is_block K) := by
  refine T.mkFn 6 20 (d := d_is_block) (N := ["statement"]) (k := 0) rfl rfl rfl rfl rfl sc_is_block (fun _ _ _ _ _ _ us hl => match us, hl with | [_], _ => rfl) (fun vs H Q E h => ?len) (fun cdv A outer s H vs Q E hr h => ⟨_,
      (pss_one (ps_ret (pe_or (pe_cmpR (op_eqK (K := K) rfl hr.units) (pe_ix (ix_seqK (K := K) rfl) (pv 0) pe_int (fun _ _ => rfl)) pe_str (nomark _)) (pe_one (pe_cmpR (op_eqK (K := K) rfl hr.units) (pe_ix (ix_seqK (K := K) rfl) (pv 0) pe_int (fun _ _ => rfl)) pe_str (nomark _)))))), ?rd⟩)
  case len => obtain ⟨_, _, _, rfl, _⟩ := h; rfl
  case rd =>
    obtain ⟨t, w, us, rfl, ht, q⟩ := h
    obtain ⟨z1, z2, z3, z4, z5, z6, z7, z8, z9, z10⟩ := lits
    walk_at "wt"
    refine r_ixT (i := 0) ht rfl ?_
    walk_at "wt"
    rw [z8]
    simp only [Sg_inj]
    by_cases c : w = wAgain
    · rw [if_pos c]
      rw [show isBl w = true from decide_eq_true (.inl c)] at q
      exact q
    rw [if_neg c]
    refine r_ixT (i := 0) ht rfl ?_
    walk_at "wt"
    rw [z9]
    simp only [Sg_inj]
    have e : isBl w = decide (w = wIf) := by
      unfold isBl
      congr 1
      exact propext ⟨fun z => z.elim (fun z => absurd z c) id, .inr⟩
    rw [e] at q
    exact q
theorem f_statement_of (T : Tx K mg) : Fn P w K mg base 4 "statement_of" ["line"] (sp_statement_of K) := by
  have c_shape_of := f_shape_of (P := P) (w := w) (base := base) T
  have c_read_part := f_read_part (P := P) (w := w) (base := base) T
  refine T.mkFn 5 19 (d := d_statement_of) (N := ["line", "parts", "shape", "part", "sort"]) (k := 3) rfl rfl rfl rfl rfl sc_statement_of (fun _ _ _ _ _ _ us hl => match us, hl with | [_], _ => rfl) (fun vs H Q E h => ?len) (fun cdv A outer s H vs Q E hr h => ⟨_,
      (pss_cons (ps_set (i := 1) sc_statement_of.nd rfl (Or.inl rfl) (pe_bm PySem.F.plainAttrs_str PySem.F.slot_str_split PySem.F.type_str_split mt_splitG (pv 0) (pa_cons pe_str pa_nil)))
        (pss_cons (ps_set (i := 2) sc_statement_of.nd rfl (Or.inl rfl) (pe_fn (takes_of rfl rfl rfl rfl) c_shape_of (hr.mono (by decide)) (by rfl) (pa_cons (pe_ix (ix_seqK (K := K) rfl) (pv 1) pe_int (fun _ _ => rfl)) pa_nil)))
        (pss_cons (ps_if (PW.pt (pw_or (pt_cmpR op_isN (pv 2) pe_non (nomark _)) (pw_or1 (pt_cmpR (op_neK (K := K) rfl hr.units) (pe_callB (call_lenK (K := K) rfl) (by rfl) (T.free 50) PySem.boot_len (pa_cons (pv 1) pa_nil)) (pe_op op_gAdd (pe_callB (call_lenK (K := K) rfl) (by rfl) (T.free 50) PySem.boot_len (pa_cons (pv 2) pa_nil)) pe_int) (nomark _))))) (pss_one (ps_raiseK (K := K) rfl rfl (takes_of rfl rfl rfl rfl) (T.says.fact 73 rfl) (T.glo 13) (by rfl))) pss_nil)
        (pss_one (ps_ret (pe_callTy (call_tupK (K := K) rfl) (by rfl) (T.free 57) (by decide +kernel) (pa_cons (pe_op op_gAdd (pe_lst (pa_cons (pe_ix (ix_seqK (K := K) rfl) (pv 1) pe_int (fun _ _ => rfl)) pa_nil)) (pe_lcX (own := [("part", 3), ("sort", 4)]) (g := gTup K 2 (gCons (gName 3) (gCons (gName 4) gNil))) (takes_of rfl rfl rfl rfl) rfl rfl rfl sc_statement_of.nd (pi_zipS0 (K := K) rfl (by rfl) (T.free 52) (pa_cons (pe_slice (sl_listK (K := K) rfl) (pv 1) (po_some pe_int) po_none) (pa_cons (pv 2) pa_nil))) (blkOk_by (own := [("part", 3), ("sort", 4)]) (N := ["line", "parts", "shape", "part", "sort"]) (sc := defScope s_statement_of) (by decide +kernel)) (fun _ _ _ _ _ _ => (pg_tup (n := 2) rfl (pgs_cons (pg_name (i := 3) sc_statement_of.nd rfl (Or.inl rfl)) (pgs_cons (pg_name (i := 4) sc_statement_of.nd rfl (Or.inl rfl)) pgs_nil)))) (fun _ _ _ _ _ _ => pts_nil) (fun _ _ _ _ _ _ E tk => (pe_fn tk c_read_part (hr.mono (by decide)) (by rfl) (pa_cons (pv 3) (pa_cons (pv 4) pa_nil)))))) pa_nil))))))), ?rd⟩)
  case len => obtain ⟨_, rfl, _⟩ := h; rfl
  case rd =>
    obtain ⟨l, rfl, hl, q⟩ := h
    have sz : 10000000 ≤ sizeLine := by rw [sizeLine_eq]; omega
    walk_at "wt"
    refine ⟨rfl, ?_⟩
    rw [blank_lit]
    refine r_split (by decide) (by omega) fun p np => ?_
    have hp : upd H p (.lst (SgL (TL.spl [32] 0 [] l))) p = some (.lst (SgL (TL.spl [32] 0 [] l))) := upd_same
    have s1 := same_new (o := .lst (SgL (TL.spl [32] 0 [] l))) np
    generalize upd H p (.lst (SgL (TL.spl [32] 0 [] l))) = H1 at hp s1 ⊢
    have lsp := spl_le (s := 32) (l := l) (acc := [])
    unfold stmL at q
    obtain ⟨w0, r, er⟩ : ∃ w r, TL.spl [32] 0 [] l = w :: r := by
      cases e : TL.spl [32] 0 [] l with
      | nil => exact absurd e spl_ne
      | cons w r => exact ⟨w, r, rfl⟩
    rw [er] at hp q lsp
    dsimp only at q
    refine r_ixL (i := 0) hp rfl ?_
    refine ⟨w0, rfl, fun H2 s2 => ?_⟩
    have hp2 := s2 _ _ hp
    have s02 := s1.trans s2
    cases e2 : shpL w0 with
    | none =>
      rw [e2] at q
      dsimp only
      rw [if_pos (show optS none = .non from rfl)]
      exact q _ s02
    | some s =>
    rw [e2] at q
    dsimp only at q
    dsimp only
    rw [if_neg (show ¬ optS (some s) = .non from fun z => by cases z)]
    have sl := (shp_le e2).1
    refine r_lenL hp2 ?_
    rw [SgL_len]
    refine r_lenStr ⟨by omega, ?_⟩
    walk_at "wt"
    by_cases c1 : r.length ≠ s.length
    · rw [if_pos (by omega)]
      rw [readsL_bad c1] at q
      exact q _ s02
    have c1 : r.length = s.length := Decidable.not_not.mp c1
    rw [if_neg (fun z => z (by omega))]
    refine r_ixL (i := 0) hp2 rfl ?_
    refine ⟨by omega, fun p1 np1 => ?_⟩
    have s3 := same_new (o := .lst [.str (Sg w0)]) np1
    have hq3 : upd H2 p1 (.lst [.str (Sg w0)]) p1 = some (.lst [.str (Sg w0)]) := upd_same
    have hp3 := s3 _ _ hp2
    have s03 := s02.trans s3
    clear s3 s02
    generalize upd H2 p1 (.lst [.str (Sg w0)]) = H3 at hq3 hp3 s03 ⊢
    refine ⟨p, _, rfl, .of hp3, fun p4 np4 => ?_⟩
    rw [cutV_one, show (SgL (w0 :: r)).drop 1 = SgL r from rfl]
    have s4 := same_new (o := .lst (SgL r)) np4
    have hp4 : upd H3 p4 (.lst (SgL r)) p4 = some (.lst (SgL r)) := upd_same
    have hq4 := s4 _ _ hq3
    have s04 := s03.trans s4
    clear s4 s03
    generalize upd H3 p4 (.lst (SgL r)) = H4 at hp4 hq4 s04 ⊢
    refine ⟨true, p4, Sg s, SgL r, rfl, .of hp4, fun D nD => lc_it (walk_zipS (n := s.length) (by show _ = min _ s.length; rw [SgL_len]; omega)) (fun i Hx => Same H4 Hx ∧ ∃ vs, readsL (s.take i) (r.take i) = some vs ∧ Hx D = some (.lst vs)) ⟨same_new nD, [], rfl, upd_same⟩ (fun i Hx _ z => .of (z.1 _ _ hp4)) (fun i x Hx Hy hi e y => ?_) fun Hx e => ?_⟩
    · obtain ⟨T, y, c, rfl, nT, rfl, e7, e8⟩ := y
      obtain ⟨sx, vs, hvs, hD⟩ := e
      have sT := same_new (o := .tup [y, .str ⟨#[c]⟩]) nT
      have es : s[i]? = some c := by
        have : s.toArray[i]? = some c := e8
        simpa using this
      obtain ⟨p', ep, rfl⟩ := SgL_mem e7
      have hD' := sT _ _ hD
      have s4T := sx.trans sT
      have vl := (readsL_len hvs).2
      rw [List.length_take] at vl
      have pl := lsp.2 p' (List.mem_cons_of_mem _ (List.mem_of_getElem? ep))
      rw [List.length_nil] at pl
      walk_at "wt"
      refine ⟨_, .inl (.inl upd_same), rfl, ?_⟩
      walk_at "wt"
      generalize upd Hx T (.tup [.str (Sg p'), .str ⟨#[c]⟩]) = H5 at hD' s4T ⊢
      refine ⟨p', c, rfl, by omega, fun H' s' => ?_⟩
      cases ev : readL c p' with
      | none =>
        rw [readsL_none es ep ev] at q
        exact q _ ((s04.trans s4T).trans s')
      | some v =>
        refine ⟨vs, s' _ _ hD', by omega, fun b x g => (upd_ne (ne_of_none g nD)).trans (s' _ _ (s4T _ _ g)), vs ++ [v], ?_, upd_same⟩
        rw [List.take_add_one, es, List.take_add_one, ep]
        exact readsL_snoc hvs ev
    obtain ⟨sx, vs, hvs, hD⟩ := e
    rw [List.take_length, List.take_of_length_le (by omega)] at hvs
    rw [hvs] at q
    dsimp only [Option.map] at q
    have vl := (readsL_len hvs).2
    refine ⟨_, _, sx _ _ hq4, hD, by show 1 + vs.length ≤ _; omega, fun p6 np6 => ?_⟩
    have s6 := same_new (o := .lst ([.str (Sg w0)] ++ vs)) np6
    refine r_tupL (.of upd_same) fun t nt => ?_
    have s06 := (s04.trans sx).trans s6
    exact q t _ (none_of s06 nt) (s06.trans (same_new nt)) upd_same
theorem f_names_in (T : Tx K mg) : Fn P w K mg base 2 "names_in" ["statement"] (sp_names_in K) := by
  have c_shape_of := f_shape_of (P := P) (w := w) (base := base) T
  refine T.mkFn 7 21 (d := d_names_in) (N := ["statement", "shape", "part", "sort"]) (k := 1) rfl rfl rfl rfl rfl sc_names_in (fun _ _ _ _ _ _ us hl => match us, hl with | [_], _ => rfl) (fun vs H Q E h => ?len) (fun cdv A outer s H vs Q E hr h => ⟨_,
      (pss_cons (ps_set (i := 1) sc_names_in.nd rfl (Or.inl rfl) (pe_fn (takes_of rfl rfl rfl rfl) c_shape_of (hr.mono (by decide)) (by rfl) (pa_cons (pe_ix (ix_seqK (K := K) rfl) (pv 0) pe_int (fun _ _ => rfl)) pa_nil)))
        (pss_one (ps_ret (pe_lc (own := [("part", 2), ("sort", 3)]) (g := gTup K 2 (gCons (gName 2) (gCons (gName 3) gNil))) rfl sc_names_in.nd (pi_zipS0 (K := K) rfl (by rfl) (T.free 52) (pa_cons (pe_slice sl_tup (pv 0) (po_some pe_int) po_none) (pa_cons (pv 1) pa_nil))) (blkOk_by (own := [("part", 2), ("sort", 3)]) (N := ["statement", "shape", "part", "sort"]) (sc := defScope s_names_in) (by decide +kernel)) (fun _ _ _ _ _ => (pg_tup (n := 2) rfl (pgs_cons (pg_name (i := 2) sc_names_in.nd rfl (Or.inl rfl)) (pgs_cons (pg_name (i := 3) sc_names_in.nd rfl (Or.inl rfl)) pgs_nil)))) (fun _ _ _ _ _ => pts_one (pt_cmpR (op_eqK (K := K) rfl hr.units) (pv 3) pe_str (nomark _))) (fun _ _ _ _ _ => (pv 2)))))), ?rd⟩)
  case len => obtain ⟨_, _, _, _, _, rfl, _⟩ := h; rfl
  case rd =>
    obtain ⟨t, l, w, us, more, rfl, hs, ht, hm, q⟩ := h
    have sz : 10000000 ≤ sizeLine := by rw [sizeLine_eq]; omega
    obtain ⟨r, s, e1, e2, e3, e4, e5, e6⟩ := stm_is hs
    walk_at "wt"
    refine r_ixT (i := 0) ht rfl ?_
    refine ⟨w, rfl, fun H1 s1 => ?_⟩
    rw [e2]
    have ht1 := s1 _ _ ht
    walk_at "wt"
    refine ⟨t, _, rfl, .inl (.inl ht1), fun z => ?_, fun p2 n2 => ?_⟩
    · have z1 := z.1
      rw [show HT.sIx _ 0 (some 1) = min 1 _ from HT.sIx_nat _ _ 1, List.length_cons] at z1
      omega
    rw [cutV_one, show (V.str (Sg w) :: (us ++ more)).drop 1 = us ++ more from rfl]
    have s2 := s1.trans (same_new (o := .tup (us ++ more)) n2)
    have h2 : upd H1 p2 (.tup (us ++ more)) p2 = some (.tup (us ++ more)) := upd_same
    generalize upd H1 p2 (.tup (us ++ more)) = H2 at s2 h2 ⊢
    refine ⟨false, p2, Sg s, us ++ more, rfl, .inl (.inl h2), fun D nD => lc_it (walk_zipS (n := s.length) (by show _ = min _ s.length; rw [List.length_append]; omega)) (fun i Hx => Same H2 Hx ∧ Hx D = some (.lst (SgL (nmS (s.take i) (r.take i))))) ⟨same_new nD, upd_same⟩ (fun i Hx _ z => .inl (.inl (z.1 _ _ h2))) (fun i x Hx Hy hi e y => ?_) fun Hx e => ?_⟩
    · obtain ⟨T, y, c, rfl, nT, rfl, e7, e8⟩ := y
      obtain ⟨sx, hD⟩ := e
      have sT := same_new (o := .tup [y, .str ⟨#[c]⟩]) nT
      have es : s[i]? = some c := by
        have : s.toArray[i]? = some c := e8
        simpa using this
      have il := (List.getElem?_eq_some_iff.mp es).1
      have er : ∃ p, r[i]? = some p := ⟨r[i], List.getElem?_eq_getElem (by omega)⟩
      obtain ⟨p, ep⟩ := er
      obtain ⟨v, ev, rv⟩ := readsL_at e3 es ep
      have ey : y = v := by
        rw [List.getElem?_append_left (by omega), ev] at e7
        exact (Option.some.inj e7).symm
      subst ey
      have hD' := sT _ _ hD
      have s2T := sx.trans sT
      walk_at "wt"
      refine ⟨_, .inl (.inl upd_same), rfl, ?_⟩
      walk_at "wt"
      generalize upd Hx T (.tup [y, .str ⟨#[c]⟩]) = H3 at hD' s2T ⊢
      have en : nmS (s.take (i + 1)) (r.take (i + 1)) = nmS (s.take i) (r.take i) ++ if c = 110 then [p] else [] := nmS_take es ep
      rw [en]
      by_cases c0 : c = 110
      · rw [if_pos (show (⟨#[c]⟩ : Str) = "n" from by rw [lits2.1, c0])]
        have ey : y = .str (Sg p) := by
          unfold readL at rv
          rw [if_pos c0] at rv
          split at rv
          · exact (Option.some.inj rv).symm
          · cases rv
        refine ⟨_, hD', by rw [SgL_len]; have := nmS_len (ss := s.take i) (ps := r.take i); rw [List.length_take] at this; omega, fun b x g => (upd_ne (ne_of_none g nD)).trans (s2T _ _ g), ?_⟩
        rw [upd_same, if_pos c0, ey]
        unfold SgL
        rw [List.map_append]
        rfl
      · rw [if_neg (show ¬ (⟨#[c]⟩ : Str) = "n" from fun z => c0 (by rw [lits2.1] at z; exact (List.cons.inj (Sg_inj.mp z)).1))]
        refine ⟨s2T, ?_⟩
        rw [if_neg c0, List.append_nil]
        exact hD'
    · obtain ⟨sx, hD⟩ := e
      rw [List.take_length, List.take_of_length_le (by omega)] at hD
      refine q D Hx (none_of s2 nD) (s2.trans sx) ?_
      rw [hD]
      unfold nmW
      rw [e1]
      dsimp only
      rw [e2]
end

local macro_rules | `(tactic| walk_at "wt") => `(tactic| try simp only [↓x_var0, ↓x_varS, ↓x_c, ↓x_op, ↓x_un, ↓x_cb, ↓x_nil, ↓x_cons, ↓x_test, ↓x_b, ↓x_ex, ↓x_and, ↓x_or, ↓x_not, ↓x_andV, ↓x_orV, ↓x_notV, ↓x_tif, ↓x_chain, ↓x_menu, ↓x_menuI, ↓x_lst, ↓x_tup, ↓x_dnew, ↓x_callW, ↓x_callN, ↓x_seq, ↓x_next, ↓x_ret, ↓x_retN, ↓x_drop, ↓x_ifS, ↓x_asg, ↓x_name, ↓x_raise, ↓x_fld, ↓x_setF, ↓x_meth, ↓x_make, ↓x_sub, ↓r_min, ↓r_max, ↓x_yes, ↓x_for, ↓x_lock, ↓x_keys, ↓x_cut, ↓x_lc, ↓x_rng1, ↓x_rng2, ↓x_lst1, ↓x_itup, ↓x_rng3, ↓x_three, ↓x_lstg, ↓x_tupg, ↓x_adrS, ↓x_one, ↓x_two, ↓x_adr, ↓x_sl, ↓x_np, ↓x_pt, ↓x_int, ↓x_bm, ↓x_bm0, ↓x_consg, ↓x_nilg, ↓x_dget2, ↓x_dget1, ↓x_dgetN, ↓x_dget, ↓x_din, ↓x_dni, ↓x_dput, ↓x_dpop2, ↓r_isB, ↓r_notB, ↓x_enum, ↓x_zip, ↓x_str, ↓x_strE, ↓r_inS, ↓r_ninS, wipe, List.map_cons, List.map_nil, ↓x_isT, ↓r_isiII, ↓r_isiBB, ↓r_isiIB, ↓r_isiSS, ↓r_neNS, ↓r_neSN, ↓r_neNN, ↓r_eqNS, ↓r_eqSN, ↓r_eqNN, ↓r_eqIS, ↓r_neIS, ↓r_neSI, ↓r_neBS, ↓r_eqBB, ↓r_neBB, ↓x_start, ↓x_K, ↓x_start0, ↓r_i0, ↓r_i, ↓r_u, ↓r_addI, ↓r_addS, ↓r_mulI, ↓r_mulS, ↓r_eqI, ↓r_neI, ↓r_eqS, ↓r_neS, ↓r_absI, ↓r_intI, ↓r_intB, List.length_cons, List.length_nil, List.replicate, List.set_cons_zero, List.set_cons_succ, decide_eq_true_eq, Bool.not_eq_true', decide_eq_false_iff_not, if_true, if_false, Bool.false_eq_true, Bool.true_eq_false, ite_true, ite_false, Bool.not_true, Bool.not_false, c_div, n_ten, c_pow, not_true_eq_false, not_false_eq_true, decide_true, decide_false, true_and, and_true, and_self, true_or, or_true, Int.reduceLT, Int.reduceLE, Int.reduceMul, Int.reduceAdd, Int.reduceSub, Int.reducePow, Int.reduceNeg, Int.reduceDiv, Int.reduceMod, Nat.reducePow, Int.reduceToNat, Int.reduceEq, Int.reduceNe, Nat.reduceLT, Nat.reduceLeDiff, Nat.reduceAdd, ↓x_whole, ↓r_repS, ↓r_repS, ↓r_repS, ↓r_repS, ↓r_repS, ↓r_repS, ↓x_zipS, ↓r_repS])
/-! ## names of a program; blocks -/
theorem nmW_end : nmW wEnd = [] := by
  unfold nmW
  have : TL.spl [32] 0 [] wEnd = [wEnd] := TL.spl_join (s := 32) (S := []) (parts := [wEnd]) (List.cons_ne_nil _ _) fun p m => by rw [List.mem_singleton.mp m]; decide
  rw [this]
  rfl
theorem Chunks.split {P : Addr → List Ln → Prop} : ∀ {rs : List Addr} {ls : List Ln}, Chunks P rs ls → ∃ cs : List (List Ln), cs.length = rs.length ∧ ls = cs.flatten ∧ ∀ (i : Nat) (r : Addr), rs[i]? = some r → ∃ c, cs[i]? = some c ∧ P r c
  | [], ls, h => ⟨[], rfl, h, fun i r e => by cases e⟩
  | r :: rs, ls, ⟨a, b, e, p, q⟩ => by
    obtain ⟨cs, h1, h2, h3⟩ := Chunks.split q
    refine ⟨a :: cs, congrArg (· + 1) h1, by rw [e, h2]; rfl, fun i x ex => ?_⟩
    cases i with
    | zero => cases ex; exact ⟨a, rfl, p⟩
    | succ i => exact h3 i x ex
theorem flatten_take {cs : List (List Ln)} {i : Nat} {c : List Ln} (h : cs[i]? = some c) : (cs.take (i + 1)).flatten = (cs.take i).flatten ++ c := by
  rw [List.take_add_one, h, List.flatten_append]
  show _ ++ (c ++ []) = _
  rw [List.append_nil]
theorem take_le {cs : List (List Ln)} {k : Nat} : (cs.take k).flatten.length ≤ cs.flatten.length := by
  have : cs.flatten = (cs.take k).flatten ++ (cs.drop k).flatten := by rw [← List.flatten_append, List.take_append_drop]
  rw [this, List.length_append]
  omega
theorem keysM {G : List Ln} : ∀ {F : List Ln}, mergeK (G.map fun z => ((.inr (Sg z) : Key), V.bl true)) (F.map fun z => ((.inr (Sg z) : Key), V.bl true)) = (addW G F).map fun z => ((.inr (Sg z) : Key), V.bl true) := by
  intro F
  induction F generalizing G with
  | nil => rfl
  | cons z r ih =>
    have e : putK (G.map fun z => ((.inr (Sg z) : Key), V.bl true)) (.inr (Sg z) : Key) (.bl true) = (if z ∈ G then G else G ++ [z]).map fun z => ((.inr (Sg z) : Key), V.bl true) := by
      unfold putK
      by_cases c : z ∈ G
      · have ha : ((G.map fun z => ((.inr (Sg z) : Key), V.bl true)).any fun kv => decide (kv.1 = (.inr (Sg z) : Key))) = true := List.any_eq_true.mpr ⟨_, List.mem_map.mpr ⟨z, c, rfl⟩, decide_eq_true rfl⟩
        rw [if_pos c, if_pos ha, List.map_map]
        refine List.map_congr_left fun y my => ?_
        show (if (.inr (Sg y) : Key) = .inr (Sg z) then ((.inr (Sg y) : Key), V.bl true) else (.inr (Sg y), .bl true)) = _
        split <;> rfl
      · rw [if_neg c, if_neg, List.map_append]
        · rfl
        · intro h
          obtain ⟨x, mx, ex⟩ := List.any_eq_true.mp h
          obtain ⟨y, my, rfl⟩ := List.mem_map.mp mx
          have : Sg y = Sg z := Sum.inr.inj (of_decide_eq_true ex)
          rw [Sg_inj.mp this] at my
          exact c my
    show mergeK (putK _ _ _) (r.map _) = _
    rw [e, ih]
    rfl
theorem keysM0 {F : List Ln} : (mergeK [] (F.map fun z => ((.inr (Sg z) : Key), V.bl true))).map (fun kv => kV kv.1) = SgL (dd F) := by
  have := keysM (G := []) (F := F)
  rw [show (([] : List Ln).map fun z => ((.inr (Sg z) : Key), V.bl true)) = [] from rfl] at this
  rw [this, List.map_map]
  rfl
def sp_names_of : Nat → PySem.W.Frag → Sp
  | 0, _ => fun _ _ _ _ => False
  | n + 1, _ => fun vs H Q _ => ∃ p ls N m, m ≤ n ∧ vs = [.ref p] ∧ ProgAt m H N p ls ∧ ls.length ≤ 10000 ∧ ∀ q H', H q = none → Same H H' → H' q = some (.lst (SgL (dd (allN ls)))) → Q (.ref q) H'
theorem r_ixEndT {K : PySem.W.Frag} {H : Hp} {Q : VK} {a : Addr} {xs : List V} {v : V} (h : H a = some (.tup (xs ++ [v]))) (q : Q v H) : rIx K (.ref a) (.int (-1)) H Q := .inr (.inl ⟨_, _, _, _, rfl, rfl, .inl (.inl h), by
  unfold atI ixN
  rw [if_neg (by decide), if_pos (by rw [List.length_append]; show -((xs.length + 1 : Nat) : Int) ≤ -1; omega)]
  show (xs ++ [v])[(-1 + ((xs ++ [v]).length : Int)).toNat]? = some v
  rw [List.length_append, show (-1 + ((xs.length + [v].length : Nat) : Int)).toNat = xs.length from by (show (-1 + ((xs.length + 1 : Nat) : Int)).toNat = _); omega]
  rw [List.getElem?_append_right (Nat.le_refl _), Nat.sub_self]
  rfl, q⟩)
section
variable {P : Program} {w : World} {K : PySem.W.Frag} {mg : Str → Option Value} {base : Heap}
theorem f_names_of (T : Tx K mg) : ∀ n : Nat, Fn P w K mg base (n + 3) "names_of" ["program"] (sp_names_of n K)
  | 0 => T.mkFn 8 22 (d := d_names_of) (N := ["program", "found", "statement", "some", "name"]) (k := 2) rfl rfl rfl rfl rfl sc_names_of (fun _ _ _ _ _ _ us hl => match us, hl with | [_], _ => rfl) (fun vs H Q E h => (show False from h).elim) (fun cdv A outer s H vs Q E hr h => (show False from h).elim)
  | n + 1 => by
    have c_names_in := f_names_in (P := P) (w := w) (base := base) T
    have c_is_block := f_is_block (P := P) (w := w) (base := base) T
    have c_names_of := f_names_of T n
    refine T.mkFn 8 22 (d := d_names_of) (N := ["program", "found", "statement", "some", "name"]) (k := n + 3) rfl rfl rfl rfl rfl sc_names_of (fun _ _ _ _ _ _ us hl => match us, hl with | [_], _ => rfl) (fun vs H Q E h => ?len) (fun cdv A outer s H vs Q E hr h => ⟨_,
        (pss_cons (ps_set (i := 1) sc_names_of.nd rfl (Or.inr rfl) (pe_lst pa_nil))
          (pss_cons (ps_for (passes_of rfl) rfl (pi_listK (K := K) rfl (pv 0)) (pg_name (i := 2) sc_names_of.nd rfl (Or.inl rfl)) (pss_cons (ps_set (i := 3) sc_names_of.nd rfl (Or.inl rfl) (pe_fn (takes_of rfl rfl rfl rfl) c_names_in (hr.mono (by omega)) (by rfl) (pa_cons (pv 2) pa_nil)))
          (pss_cut (ps_if (pt_val (pe_fn (takes_of rfl rfl rfl rfl) c_is_block (hr.mono (by omega)) (by rfl) (pa_cons (pv 2) pa_nil))) (pss_one (ps_set (i := 3) sc_names_of.nd rfl (Or.inl rfl) (pe_op op_gAdd (pv 3) (pe_fn (takes_of rfl rfl rfl rfl) c_names_of (hr.mono (by omega)) (by rfl) (pa_cons (pe_ix (ix_seqK (K := K) rfl) (pv 2) (pe_un un_neg pe_int) (fun _ _ => rfl)) pa_nil))))) pss_nil)
          (pss_one (ps_set (i := 1) sc_names_of.nd rfl (Or.inr rfl) (pe_op op_gAdd (pv 1) (pe_lc (own := [("name", 4)]) (g := gName 4) rfl sc_names_of.nd (pi_listK (K := K) rfl (pv 3)) (blkOk_by (own := [("name", 4)]) (N := ["program", "found", "statement", "some", "name"]) (sc := defScope s_names_of) (by decide +kernel)) (fun _ _ _ _ _ => (pg_name (i := 4) sc_names_of.nd rfl (Or.inl rfl))) (fun _ _ _ _ _ => pts_one (pt_cmpR (op_ninK (K := K) rfl) (pv 4) (pv 1) (by rfl))) (fun _ _ _ _ _ => (pv 4)))))))))
          (pss_one (ps_ret (pe_callTy (call_listD rfl) (by rfl) (T.free 56) (by decide +kernel) (pa_cons (pe_callTy (call_dictPK (K := K) rfl rfl) (by rfl) (T.free 58) (by decide +kernel) (pa_cons (pe_lc (own := [("name", 4)]) (g := gName 4) rfl sc_names_of.nd (pi_listK (K := K) rfl (pv 1)) (blkOk_by (own := [("name", 4)]) (N := ["program", "found", "statement", "some", "name"]) (sc := defScope s_names_of) (by decide +kernel)) (fun _ _ _ _ _ => (pg_name (i := 4) sc_names_of.nd rfl (Or.inl rfl))) (fun _ _ _ _ _ => pts_nil) (fun _ _ _ _ _ => (pe_tup (pa_cons (pv 4) (pa_cons pe_bl pa_nil))))) pa_nil)) pa_nil)))))), ?rd⟩)
    case len => obtain ⟨_, _, _, _, _, rfl, _⟩ := h; rfl
    case rd =>
      obtain ⟨p, ls, N, m, hm, rfl, hp, hl, q⟩ := h
      have sz : 10000000 ≤ sizeLine := by rw [sizeLine_eq]; omega
      walk_at "wt"
      refine ⟨by omega, fun f nf => ?_⟩
      have s1 := same_new (o := .lst []) nf
      have hf : upd H f (.lst []) f = some (.lst []) := upd_same
      have hp1 := hp.same s1
      generalize upd H f (.lst []) = H1 at s1 hf hp1 ⊢
      obtain ⟨rs, hrs, ch⟩ := hp1.pr
      obtain ⟨cs, c1, c2, c3⟩ := ch.split
      have nfH := nf
      refine ⟨⟨_, .of hrs⟩, forW_list (xs := rs.map V.ref) (fun i σ H' => ∃ f F o2 o3, σ = [some (.ref p), some (.ref f), o2, o3, none] ∧ Same H1 H' ∧ H' f = some (.lst (SgL F)) ∧ dd F = dd (allN (cs.take i).flatten) ∧ F.length ≤ (allN (cs.take i).flatten).length) ⟨f, [], _, _, rfl, Same.refl _, hf, rfl, Nat.le_refl _⟩ ?_ ?_ ?_⟩
      · rintro i σ H' hi ⟨f, F, o2, o3, rfl, s, -⟩
        exact .of (s _ _ hrs)
      · rintro i x σ H' hx ⟨f, F, o2, o3, rfl, s, hF, dF, lF⟩
        obtain ⟨r, er, rfl⟩ : ∃ r, rs[i]? = some r ∧ x = .ref r := by
          rw [List.getElem?_map] at hx
          cases e3 : rs[i]? with
          | none => rw [e3] at hx; cases hx
          | some k => rw [e3] at hx; cases hx; exact ⟨k, rfl, rfl⟩
        obtain ⟨c, ec, sc⟩ := c3 i r er
        rw [flatten_take ec]
        have sc := sc.fr (H' := H') (N' := N) (fun c xs g => s _ _ g) fun q xs n g => ⟨n, s _ _ g⟩
        obtain ⟨l, w, vs, hst, hh⟩ := sc.tup
        walk_at "wt"
        have lp := take_le (cs := cs) (k := i + 1)
        rw [← c2, flatten_take ec, List.length_append] at lp
        have la := allN_len (ls := (cs.take i).flatten)
        have lc := allN_len (ls := c)
        obtain ⟨more, tw, hm1⟩ : ∃ more, H' r = some (.tup (.str (Sg w) :: (vs ++ more))) ∧ more.length ≤ 1 := by
          rcases hh with ⟨_, _, _, e⟩ | ⟨m', q, inner, rs', _, _, _, e, _⟩
          · exact ⟨[], by rw [List.append_nil]; exact e, Nat.zero_le _⟩
          · exact ⟨[.ref q], e, Nat.le_refl _⟩
        refine ⟨r, l, w, vs, more, rfl, hst, tw, hm1, fun q1 H2 nq1 s2 hq1 => ?_⟩
        refine ⟨fun σ' H3 => ∃ q S, σ' = [some (.ref p), some (.ref f), some (.ref r), some (.ref q), none] ∧ Same H2 H3 ∧ H3 q = some (.lst (SgL S)) ∧ dd (F ++ S) = dd (F ++ allN c) ∧ S.length ≤ (allN c).length, ?_, ?_⟩
        · refine ⟨r, w, vs ++ more, rfl, s2 _ _ tw, ?_⟩
          refine ⟨_, rfl, ?_⟩
          rcases hh with ⟨b1, b2, b3, b4⟩ | ⟨m', q', inner, rs', em, b1, b3, b4, b5, b6, b7⟩
          · rw [b1, if_neg Bool.false_ne_true]
            have ea : allN c = nmW l := by
              rw [b3]
              show nmW l ++ [] = _
              rw [List.append_nil]
            refine ⟨q1, nmW l, rfl, Same.refl _, hq1, by rw [ea], by rw [ea]; exact Nat.le_refl _⟩
          · rw [b1, if_pos rfl]
            refine r_ixEndT (xs := .str (Sg w) :: vs) (v := .ref q') (s2 _ _ b4) ?_
            obtain ⟨n', en⟩ : ∃ n', n = n' + 1 := ⟨n - 1, by omega⟩
            rw [en]
            have pi : ProgAt m' H2 N q' inner := ⟨b5, rs', s2 _ _ b6, b7.mono fun _ _ g => g.fr (fun c xs g => s2 _ _ g) fun q xs n g => ⟨n, s2 _ _ g⟩⟩
            have ea : allN c = nmW l ++ allN inner := by
              rw [b3]
              show nmW l ++ allN (inner ++ [wEnd]) = _
              rw [allN_app, show allN [wEnd] = nmW wEnd ++ [] from rfl, nmW_end, List.append_nil, List.append_nil]
            have li : inner.length ≤ c.length := by
              rw [b3, List.length_cons, List.length_append]
              omega
            have ld := dd_len (ks := allN inner)
            have ln := nmW_len (l := l)
            have lai := allN_len (ls := inner)
            refine ⟨q', inner, N, m', by omega, rfl, pi, by omega, fun q3 H3 nq3 s3 hq3 => ?_⟩
            refine ⟨_, _, s3 _ _ hq1, hq3, by rw [SgL_len, SgL_len]; omega, fun q4 nq4 => ?_⟩
            refine ⟨q4, nmW l ++ dd (allN inner), rfl, s3.trans (same_new nq4), ?_, by rw [ea]; exact dd_dd, by rw [ea, List.length_append, List.length_append]; omega⟩
            rw [upd_same]
            unfold SgL
            rw [List.map_append]
        rintro σ' H3 ⟨q1', S, rfl, s3, hS, dS, lS⟩
        have s23 := s2.trans s3
        have hF3 := s23 _ _ hF
        walk_at "wt"
        refine ⟨⟨_, .of hS⟩, fun D nD => lc_list (xs := SgL S) (fun j Hx => Same H3 Hx ∧ Hx D = some (.lst (SgL ((S.take j).filter fun k => !decide (k ∈ F))))) ⟨same_new nD, upd_same⟩ (fun j Hx _ e => .of (e.1 _ _ hS)) (fun j x Hx hx e => ?_) fun Hx e => ?_⟩
        · obtain ⟨sx, hD⟩ := e
          obtain ⟨z, ez, rfl⟩ := SgL_mem hx
          have jl := (List.getElem?_eq_some_iff.mp ez).1
          walk_at "wt"
          refine r_ninL (.of (sx _ _ hF3)) rfl SgL_flat ?_
          rw [inV_S]
          refine ⟨_, rfl, ?_⟩
          rw [List.take_add_one, ez, List.filter_append]
          by_cases cz : z ∈ F
          · rw [decide_eq_true cz, if_neg (by exact Bool.false_ne_true)]
            refine ⟨sx, ?_⟩
            rw [hD]
            show _ = some (HO.lst (SgL (_ ++ List.filter _ [z])))
            rw [List.filter_cons_of_neg (by rw [decide_eq_true cz]; exact Bool.false_ne_true), List.filter_nil, List.append_nil]
          · rw [decide_eq_false cz, if_pos (show (!false) = true from rfl)]
            have lf := List.length_filter_le (fun k => !decide (k ∈ F)) (S.take j)
            rw [List.length_take] at lf
            refine ⟨_, hD, by rw [SgL_len]; omega, fun b x g => (upd_ne (ne_of_none g nD)).trans (sx _ _ g), ?_⟩
            rw [upd_same]
            show _ = some (HO.lst (SgL (_ ++ List.filter _ [z])))
            rw [List.filter_cons_of_pos (by rw [decide_eq_false cz]; rfl), List.filter_nil]
            unfold SgL
            rw [List.map_append]
            rfl
        obtain ⟨sx, hD⟩ := e
        rw [SgL_len, List.take_length] at hD
        have lf := List.length_filter_le (fun k => !decide (k ∈ F)) S
        refine ⟨_, _, sx _ _ hF3, hD, by rw [SgL_len, SgL_len]; omega, fun f2 nf2 => ?_⟩
        refine ⟨f2, F ++ S.filter (fun k => !decide (k ∈ F)), _, _, rfl, ((s.trans s23).trans sx).trans (same_new nf2), ?_, ?_, ?_⟩
        · rw [upd_same]
          unfold SgL
          rw [List.map_append]
        · rw [dd_more, dS, allN_app]
          exact dd_congr dF
        · rw [allN_app, List.length_append, List.length_append]
          omega
      · rintro σ H' ⟨f, F, o2, o3, rfl, s, hF, dF, lF⟩
        rw [List.length_map, ← c1, List.take_length, ← c2] at dF lF
        have la := allN_len (ls := ls)
        walk_at "wt"
        refine ⟨⟨_, .of hF⟩, fun D nD => lc_list (xs := SgL F) (fun j Hx => ∃ ps : List Addr, Same H' Hx ∧ Hx D = some (.lst (ps.map V.ref)) ∧ Paired (fun p kv => Hx p = some (.tup [kV kv.1, kv.2])) ps ((F.take j).map fun z => ((.inr (Sg z) : Key), V.bl true))) ⟨[], same_new nD, upd_same, .nil⟩ (fun j Hx _ e => e.elim fun ps e => .of (e.1 _ _ hF)) (fun j x Hx hx e => ?_) fun Hx e => ?_⟩
        · obtain ⟨ps, sx, hD, pp⟩ := e
          obtain ⟨z, ez, rfl⟩ := SgL_mem hx
          have jl := (List.getElem?_eq_some_iff.mp ez).1
          have pl := pp.length
          rw [List.length_map, List.length_take] at pl
          walk_at "wt"
          refine ⟨by omega, fun t nt => ?_⟩
          have st := same_new (o := .tup [.str (Sg z), .bl true]) nt
          have ht : upd Hx t (.tup [.str (Sg z), .bl true]) t = some (.tup [.str (Sg z), .bl true]) := upd_same
          have hD2 := st _ _ hD
          generalize upd Hx t (.tup [.str (Sg z), .bl true]) = Hy at st ht hD2 ⊢
          have fr : ∀ {b xs}, Hy b = some (.tup xs) → upd Hy D (.lst (ps.map V.ref ++ [.ref t])) b = some (.tup xs) := fun g => (upd_ne (ne_of g hD2 (by intro z; cases z))).trans g
          refine ⟨_, hD2, by rw [List.length_map]; omega, ps ++ [t], fun b x g => (upd_ne (ne_of_none g nD)).trans (st _ _ (sx _ _ g)), by rw [upd_same, List.map_append]; rfl, ?_⟩
          rw [List.take_add_one, ez, List.map_append]
          exact Paired.snoc (pp.mono fun p kv g => fr (st _ _ g)) (fr ht)
        obtain ⟨ps, sx, hD, pp⟩ := e
        rw [SgL_len, List.take_length] at pp
        refine ⟨D, ps, _, rfl, .of hD, pp.mono fun p kv g => .inl (.inl g), fun d nd => ?_⟩
        dsimp only
        have sd := same_new (o := .dK (mergeK [] (F.map fun z => ((.inr (Sg z) : Key), V.bl true)))) nd
        refine ⟨d, _, rfl, .inl upd_same, fun g ng => ?_⟩
        rw [keysM0, dF]
        exact q g _ (none_of (((s1.trans s).trans sx).trans sd) ng) ((((s1.trans s).trans sx).trans sd).trans (same_new ng)) upd_same
end

local macro_rules | `(tactic| walk_at "wt") => `(tactic| try simp only [↓x_var0, ↓x_varS, ↓x_c, ↓x_op, ↓x_un, ↓x_cb, ↓x_nil, ↓x_cons, ↓x_test, ↓x_b, ↓x_ex, ↓x_and, ↓x_or, ↓x_not, ↓x_andV, ↓x_orV, ↓x_notV, ↓x_tif, ↓x_chain, ↓x_menu, ↓x_menuI, ↓x_lst, ↓x_tup, ↓x_dnew, ↓x_callW, ↓x_callN, ↓x_seq, ↓x_next, ↓x_ret, ↓x_retN, ↓x_drop, ↓x_ifS, ↓x_asg, ↓x_name, ↓x_raise, ↓x_fld, ↓x_setF, ↓x_meth, ↓x_make, ↓x_sub, ↓r_min, ↓r_max, ↓x_yes, ↓x_for, ↓x_lock, ↓x_keys, ↓x_cut, ↓x_lc, ↓x_rng1, ↓x_rng2, ↓x_lst1, ↓x_itup, ↓x_rng3, ↓x_three, ↓x_lstg, ↓x_tupg, ↓x_adrS, ↓x_one, ↓x_two, ↓x_adr, ↓x_sl, ↓x_np, ↓x_pt, ↓x_int, ↓x_bm, ↓x_bm0, ↓x_consg, ↓x_nilg, ↓x_dget2, ↓x_dget1, ↓x_dgetN, ↓x_dget, ↓x_din, ↓x_dni, ↓x_dput, ↓x_dpop2, ↓r_isB, ↓r_notB, ↓x_enum, ↓x_zip, ↓x_str, ↓x_strE, ↓r_inS, ↓r_ninS, wipe, List.map_cons, List.map_nil, ↓x_isT, ↓r_isiII, ↓r_isiBB, ↓r_isiIB, ↓r_isiSS, ↓r_neNS, ↓r_neSN, ↓r_neNN, ↓r_eqNS, ↓r_eqSN, ↓r_eqNN, ↓r_eqIS, ↓r_neIS, ↓r_neSI, ↓r_neBS, ↓r_eqBB, ↓r_neBB, ↓x_start, ↓x_K, ↓x_start0, ↓r_i0, ↓r_i, ↓r_u, ↓r_addI, ↓r_addS, ↓r_mulI, ↓r_mulS, ↓r_eqI, ↓r_neI, ↓r_eqS, ↓r_neS, ↓r_absI, ↓r_intI, ↓r_intB, List.length_cons, List.length_nil, List.replicate, List.set_cons_zero, List.set_cons_succ, decide_eq_true_eq, Bool.not_eq_true', decide_eq_false_iff_not, if_true, if_false, Bool.false_eq_true, Bool.true_eq_false, ite_true, ite_false, Bool.not_true, Bool.not_false, c_div, n_ten, c_pow, not_true_eq_false, not_false_eq_true, decide_true, decide_false, true_and, and_true, and_self, true_or, or_true, Int.reduceLT, Int.reduceLE, Int.reduceMul, Int.reduceAdd, Int.reduceSub, Int.reducePow, Int.reduceNeg, Int.reduceDiv, Int.reduceMod, Nat.reducePow, Int.reduceToNat, Int.reduceEq, Int.reduceNe, Nat.reduceLT, Nat.reduceLeDiff, Nat.reduceAdd, ↓x_whole, ↓r_repS, ↓r_repS, ↓r_repS, ↓r_repS, ↓r_repS, ↓r_repS, ↓x_zipS, ↓r_repS, ↓r_repS])
/-! ## blocks -/
theorem lat_app {α : Type} {l : List α} {a b : α} {k : Nat} (h : (l ++ [a])[k]? = some b) : (k < l.length ∧ l[k]? = some b) ∨ (k = l.length ∧ b = a) := by
  have hk := (List.getElem?_eq_some_iff.mp h).1
  rw [List.length_append, List.length_singleton] at hk
  by_cases c : k < l.length
  · rw [List.getElem?_append_left c] at h
    exact .inl ⟨c, h⟩
  · have : k = l.length := by omega
    subst this
    rw [List.getElem?_append_right (Nat.le_refl _), Nat.sub_self] at h
    exact .inr ⟨rfl, (Option.some.inj h).symm⟩
theorem lat_end {α : Type} {l : List α} {a : α} {k : Nat} (h : k = l.length) : (l ++ [a])[k]? = some a := by
  subst h
  rw [List.getElem?_append_right (Nat.le_refl _), Nat.sub_self]
  rfl
theorem eqv_list0 {ds : List PyData} : PyData.eqv (.list ds) (.list []) = decide (ds = []) := by
  cases ds with
  | nil => simp [PyData.eqv, PyData.eqvAll]
  | cons d r => simp [PyData.eqv, PyData.eqvAll]
theorem let_ok {p : Ln} (h : p.all isLet = true) : PyData.strOk (Sg p) = true := by
  unfold PyData.strOk
  rw [List.all_toArray]
  refine List.all_eq_true.mpr fun c m => ?_
  have := of_decide_eq_true (List.all_eq_true.mp h c m)
  exact decide_eq_true (by omega)
theorem readL_pl {s : Nat} {p : Ln} {v : V} (h : readL s p = some v) : ∃ d, PlD v d := by
  unfold readL at h
  split at h
  · split at h
    · rename_i c
      cases h
      exact ⟨_, .str _ (let_ok (of_decide_eq_true c).2.2.1)⟩
    · cases h
  · split at h
    · cases h
    · split at h
      · cases h
      · cases h
        exact ⟨_, .int _⟩
theorem readsL_pl : ∀ {ss : List Nat} {ps : List Ln} {vs : List V}, readsL ss ps = some vs → ∃ ds, PlAll vs ds
  | [], [], vs, h => by cases h; exact ⟨[], .nil⟩
  | s :: ss, p :: ps, vs, h => by
    unfold readsL at h
    cases e : readL s p with
    | none => rw [e] at h; cases h
    | some v =>
      rw [e] at h
      dsimp only at h
      cases e2 : readsL ss ps with
      | none => rw [e2] at h; cases h
      | some us =>
        rw [e2] at h
        cases h
        obtain ⟨d, hd⟩ := readL_pl e
        obtain ⟨ds, hds⟩ := readsL_pl e2
        exact ⟨_, .cons hd hds⟩
  | [], _ :: _, _, h => by cases h
  | _ :: _, [], _, h => by cases h
theorem bl_ok {w : Ln} (h : isBl w = true) : PyData.strOk (Sg w) = true := by
  rcases of_decide_eq_true h with rfl | rfl <;> decide +kernel
/-- a list of statements' heads against [] -/
theorem r_eqHs {K : PySem.W.Frag} {H : Hp} {Q : VK} {a b : Addr} {hs : List Addr} (h1 : H a = some (.lst (hs.map V.ref))) (h2 : H b = some (.lst [])) (hp : ∀ (j : Nat) (h : Addr), hs[j]? = some h → ∃ xs ds, H h = some (.tup xs) ∧ PlAll xs ds) (q : ∀ b, b = decide (hs = []) → Q (.bl b) H) : gEq K (.ref a) (.ref b) H Q ∧ ∀ Q' : VK, (∀ b, b = !decide (hs = []) → Q' (.bl b) H) → gNe K (.ref a) (.ref b) H Q' := by
  obtain ⟨ds, d1, d2, d3⟩ : ∃ ds, DpAll K H (hs.map V.ref) ds ∧ (∀ z ∈ ds, ShK 1 z) ∧ (ds = [] ↔ hs = []) := by
    clear q h1
    induction hs with
    | nil => exact ⟨[], .nil, (fun z m => (List.not_mem_nil m).elim), ⟨(fun _ => rfl), (fun _ => rfl)⟩⟩
    | cons h r ih =>
      obtain ⟨ds, d1, d2, -⟩ := ih fun j h e => hp (j + 1) h e
      obtain ⟨xs, es, g1, g2⟩ := hp 0 h rfl
      refine ⟨.tuple es :: ds, .cons (.tup (.inl (.inl g1)) g2.dp) d1, fun z m => ?_, ⟨(fun z => by cases z), (fun z => by cases z)⟩⟩
      rcases List.mem_cons.mp m with rfl | m
      · exact ShK.tup g2.sh
      · exact d2 z m
  have e : PyData.eqv (.list ds) (.list []) = decide (hs = []) := by
    rw [eqv_list0]
    exact decide_eq_decide.mpr d3
  exact ⟨⟨_, _, .lst (.of h1) d1, .lst (.of h2) .nil, (ShK.lst d2).ok (by decide), (ShK.lst (k := 0) fun z m => (List.not_mem_nil m).elim).ok (by decide), q _ e⟩,
    fun Q' q' => ⟨_, _, .lst (.of h1) d1, .lst (.of h2) .nil, (ShK.lst d2).ok (by decide), (ShK.lst (k := 0) fun z m => (List.not_mem_nil m).elim).ok (by decide), q' _ (by rw [e])⟩⟩
/-- lists of a program under work: none of H, none that may still grow -/
def BN (H : Hp) (hd rw : Addr) (rws : List Addr) (q : Addr) : Prop := H q = none ∧ q ∉ rws ∧ q ≠ hd ∧ q ≠ rw
def preL (lv : List (List Ln × List Ln)) : List Ln := lv.flatMap fun x => x.1 ++ x.2
structure BkI (H H' : Hp) (hd rw : Addr) (hs rws : List Addr) (lv : List (List Ln × List Ln)) : Prop where
  s : Same H H'
  hh : H' hd = some (.lst (hs.map V.ref))
  hr : H' rw = some (.lst (rws.map V.ref))
  el : rws.length = lv.length
  eh : lv.length = hs.length + 1
  z : ∃ L, lv[0]? = some ([], L)
  ro : ∀ (j : Nat) (r : Addr), rws[j]? = some r → ∃ x rs, lv[j]? = some x ∧ H' r = some (.lst (rs.map V.ref)) ∧ Chunks (StaAt (3 - j) H' (BN H hd rw rws)) rs x.2
  ho : ∀ (j : Nat) (h : Addr), hs[j]? = some h → ∃ b w vs L, lv[j + 1]? = some ([b], L) ∧ stmL b = some (w, vs) ∧ isBl w = true ∧ H' h = some (.tup (.str (Sg w) :: vs))
  nd : rws.Nodup
  n0 : H hd = none ∧ H rw = none ∧ ∀ r ∈ rws, H r = none
  ne : hd ≠ rw ∧ ∀ r ∈ rws, r ≠ hd ∧ r ≠ rw
  d3 : hs.length ≤ 3
theorem BkI.same {H H' H2 : Hp} {hd rw : Addr} {hs rws : List Addr} {lv : List (List Ln × List Ln)} (I : BkI H H' hd rw hs rws lv) (s : Same H' H2) : BkI H H2 hd rw hs rws lv :=
  { I with s := I.s.trans s, hh := s _ _ I.hh, hr := s _ _ I.hr, ro := fun j r e => (I.ro j r e).elim fun x z => z.elim fun rs z => ⟨x, rs, z.1, s _ _ z.2.1, z.2.2.mono fun _ _ g => g.fr (fun c xs g => s _ _ g) fun q xs n g => ⟨n, s _ _ g⟩⟩, ho := fun j h e => (I.ho j h e).elim fun b z => z.elim fun w z => z.elim fun vs z => z.elim fun L z => ⟨b, w, vs, L, z.1, z.2.1, z.2.2.1, s _ _ z.2.2.2⟩ }
/-- the innermost row grows by a statement -/
theorem BkI.app {H H' : Hp} {hd rw : Addr} {hs rws' : List Addr} {r t : Addr} {rs : List Addr} {lv' : List (List Ln × List Ln)} {o L c : List Ln} (I : BkI H H' hd rw hs (rws' ++ [r]) (lv' ++ [(o, L)])) (hr : H' r = some (.lst (rs.map V.ref))) (st : StaAt (3 - hs.length) H' (BN H hd rw (rws' ++ [r])) t c) :
    BkI H (upd H' r (.lst (rs.map V.ref ++ [.ref t]))) hd rw hs (rws' ++ [r]) (lv' ++ [(o, L ++ c)]) := by
  have el := I.el
  have eh := I.eh
  rw [List.length_append, List.length_append] at el
  rw [List.length_append] at eh
  have l1 : lv'.length = hs.length := by
    have : [(o, L)].length = 1 := rfl
    omega
  have l2 : rws'.length = hs.length := by
    have : [(o, L)].length = 1 := rfl
    have : [r].length = 1 := rfl
    omega
  have mr : r ∈ rws' ++ [r] := List.mem_append_right _ (List.mem_singleton.mpr rfl)
  obtain ⟨n1, n2⟩ := I.ne.2 r mr
  have kt : ∀ c xs, H' c = some (.tup xs) → upd H' r (.lst (rs.map V.ref ++ [.ref t])) c = some (.tup xs) := fun c xs g => (upd_ne (ne_of g hr (by intro z; cases z))).trans g
  have kl : ∀ q xs, BN H hd rw (rws' ++ [r]) q → H' q = some (.lst xs) → BN H hd rw (rws' ++ [r]) q ∧ upd H' r (.lst (rs.map V.ref ++ [.ref t])) q = some (.lst xs) := fun q xs n g => ⟨n, (upd_ne fun e => n.2.1 (by rw [e]; exact mr)).trans g⟩
  refine { I with s := fun b x g => (upd_ne (ne_of_none g (I.n0.2.2 r mr))).trans (I.s _ _ g), hh := (upd_ne n1.symm).trans I.hh, hr := (upd_ne n2.symm).trans I.hr, el := ?_, eh := ?_, z := ?_, ro := fun j q e => ?_, ho := fun j h e => ?_ }
  · rw [I.el, List.length_append, List.length_append]
    rfl
  · rw [← I.eh, List.length_append, List.length_append]
    rfl
  · obtain ⟨L0, e⟩ := I.z
    cases lv' with
    | nil =>
      cases e
      exact ⟨_, rfl⟩
    | cons x l =>
      cases e
      exact ⟨_, rfl⟩
  · obtain ⟨x, rs', h1, h2, h3⟩ := I.ro j q e
    have h3' := h3.mono fun _ _ g => g.fr kt kl
    rcases lat_app e with ⟨hj, e2⟩ | ⟨hj, e2⟩
    · rw [List.getElem?_append_left (by omega)] at h1 ⊢
      refine ⟨x, rs', h1, (upd_ne fun z => ?_).trans h2, h3'⟩
      have nd := I.nd
      rw [List.nodup_append] at nd
      exact nd.2.2 q (List.mem_of_getElem? e2) r (List.mem_singleton.mpr rfl) z
    · subst e2
      rw [hj, l2, ← l1, lat_end rfl] at h1
      cases h1
      rw [hr] at h2
      have ers : rs = rs' := by
        have := HO.lst.inj (Option.some.inj h2)
        have inj : ∀ {a b : List Addr}, a.map V.ref = b.map V.ref → a = b := by
          intro a
          induction a with
          | nil => intro b h; cases b with
            | nil => rfl
            | cons y b => cases h
          | cons x a ih => intro b h; cases b with
            | nil => cases h
            | cons y b =>
              have h1 := V.ref.inj (List.cons.inj h).1
              have h2 := ih (List.cons.inj h).2
              rw [h1, h2]
        exact inj this
      subst ers
      refine ⟨(o, L ++ c), rs ++ [t], ?_, ?_, ?_⟩
      · rw [hj, l2, ← l1]
        exact lat_end rfl
      · rw [upd_same, List.map_append]
        rfl
      · rw [hj, l2] at h3' ⊢
        exact h3'.snoc (st.fr kt kl)
  · obtain ⟨b, w, vs, M, h1, h2, h3, h4⟩ := I.ho j h e
    have hj := (List.getElem?_eq_some_iff.mp e).1
    refine ⟨b, w, vs, if j + 1 = hs.length then M ++ c else M, ?_, h2, h3, kt _ _ h4⟩
    by_cases cj : j + 1 = hs.length
    · rw [if_pos cj]
      rw [cj, ← l1, lat_end rfl] at h1
      cases h1
      rw [cj, ← l1]
      exact lat_end rfl
    · rw [if_neg cj]
      rw [List.getElem?_append_left (by omega)] at h1 ⊢
      exact h1
theorem BkI.push {H H' H2 : Hp} {hd rw : Addr} {hs rws : List Addr} {lv : List (List Ln × List Ln)} {t r : Addr} {b w : Ln} {vs : List V} (I : BkI H H' hd rw hs rws lv) (ht : H2 t = some (.tup (.str (Sg w) :: vs))) (hb : stmL b = some (w, vs)) (bl : isBl w = true) (d : hs.length < 3) (nr : H' r = none)
    (h1 : H2 hd = some (.lst ((hs ++ [t]).map V.ref))) (h2 : H2 rw = some (.lst ((rws ++ [r]).map V.ref))) (h3 : H2 r = some (.lst [])) (k : ∀ b o, b ≠ hd → b ≠ rw → b ≠ r → H' b = some o → H2 b = some o) : BkI H H2 hd rw (hs ++ [t]) (rws ++ [r]) (lv ++ [([b], [])]) := by
  have el := I.el
  have eh := I.eh
  have kt : ∀ c xs, H' c = some (.tup xs) → H2 c = some (.tup xs) := fun c xs g => k _ _ (ne_of g I.hh (by intro z; cases z)) (ne_of g I.hr (by intro z; cases z)) (ne_of_none g nr) g
  have kl : ∀ q xs, BN H hd rw rws q → H' q = some (.lst xs) → BN H hd rw (rws ++ [r]) q ∧ H2 q = some (.lst xs) := fun q xs n g => by
    have nq := ne_of_none g nr
    refine ⟨⟨n.1, fun m => ?_, n.2.2.1, n.2.2.2⟩, k _ _ n.2.2.1 n.2.2.2 nq g⟩
    rcases List.mem_append.mp m with m | m
    · exact n.2.1 m
    · exact nq (List.mem_singleton.mp m)
  have nH := none_of I.s nr
  refine { s := fun b x g => k _ _ (ne_of_none g I.n0.1) (ne_of_none g I.n0.2.1) (ne_of_none g nH) (I.s _ _ g), hh := h1, hr := h2, el := by rw [List.length_append, List.length_append, el]; rfl, eh := by rw [List.length_append, List.length_append, eh]; rfl, z := ?_, ro := fun j q e => ?_, ho := fun j h e => ?_, nd := ?_, n0 := ⟨I.n0.1, I.n0.2.1, fun q m => ?_⟩, ne := ⟨I.ne.1, fun q m => ?_⟩, d3 := by rw [List.length_append]; exact d }
  · obtain ⟨L, e⟩ := I.z
    exact ⟨L, by rw [List.getElem?_append_left (by omega)]; exact e⟩
  · rcases lat_app e with ⟨hj, e2⟩ | ⟨hj, e2⟩
    · obtain ⟨x, rs, g1, g2, g3⟩ := I.ro j q e2
      have mq := List.mem_of_getElem? e2
      refine ⟨x, rs, by rw [List.getElem?_append_left (by omega)]; exact g1, k _ _ (I.ne.2 q mq).1 (I.ne.2 q mq).2 (ne_of_none g2 nr) g2, g3.mono fun _ _ g => g.fr kt kl⟩
    · subst e2
      exact ⟨([b], []), [], lat_end (by omega), h3, rfl⟩
  · rcases lat_app e with ⟨hj, e2⟩ | ⟨hj, e2⟩
    · obtain ⟨b', w', vs', L, g1, g2, g3, g4⟩ := I.ho j h e2
      exact ⟨b', w', vs', L, by rw [List.getElem?_append_left (by omega)]; exact g1, g2, g3, kt _ _ g4⟩
    · subst e2
      exact ⟨b, w, vs, [], lat_end (by omega), hb, bl, ht⟩
  · refine List.nodup_append.mpr ⟨I.nd, List.nodup_cons.mpr ⟨List.not_mem_nil, List.nodup_nil⟩, fun x mx y my e => ?_⟩
    rw [List.mem_singleton.mp my] at e
    subst e
    obtain ⟨j, ej⟩ := List.getElem?_of_mem mx
    obtain ⟨_, _, _, g2, _⟩ := I.ro j x ej
    rw [nr] at g2
    cases g2
  · rcases List.mem_append.mp m with m | m
    · exact I.n0.2.2 q m
    · rw [List.mem_singleton.mp m]
      exact nH
  · rcases List.mem_append.mp m with m | m
    · exact I.ne.2 q m
    · rw [List.mem_singleton.mp m]
      exact ⟨(ne_of_none I.hh nr).symm, (ne_of_none I.hr nr).symm⟩
theorem BkI.pop {H H' H2 : Hp} {hd rw : Addr} {hs rws : List Addr} {lv : List (List Ln × List Ln)} {h r : Addr} {x : List Ln × List Ln} (I : BkI H H' hd rw (hs ++ [h]) (rws ++ [r]) (lv ++ [x]))
    (h1 : H2 hd = some (.lst (hs.map V.ref))) (h2 : H2 rw = some (.lst (rws.map V.ref))) (k : ∀ b o, b ≠ hd → b ≠ rw → H' b = some o → H2 b = some o) :
    BkI H H2 hd rw hs rws lv ∧ BN H hd rw rws r ∧ (∃ rs, H2 r = some (.lst (rs.map V.ref)) ∧ Chunks (StaAt (2 - hs.length) H2 (BN H hd rw rws)) rs x.2) ∧ ∃ b w vs, x.1 = [b] ∧ stmL b = some (w, vs) ∧ isBl w = true ∧ H2 h = some (.tup (.str (Sg w) :: vs)) := by
  have el := I.el
  have eh := I.eh
  have d3 := I.d3
  rw [List.length_append, List.length_append] at el
  rw [List.length_append, List.length_append] at eh
  rw [List.length_append] at d3
  have e1 : [r].length = 1 := rfl
  have e2 : [h].length = 1 := rfl
  have e3 : [x].length = 1 := rfl
  have nd := List.nodup_append.mp I.nd
  have kt : ∀ c xs, H' c = some (.tup xs) → H2 c = some (.tup xs) := fun c xs g => k _ _ (ne_of g I.hh (by intro z; cases z)) (ne_of g I.hr (by intro z; cases z)) g
  have kl : ∀ q xs, BN H hd rw (rws ++ [r]) q → H' q = some (.lst xs) → BN H hd rw rws q ∧ H2 q = some (.lst xs) := fun q xs n g => ⟨⟨n.1, fun m => n.2.1 (List.mem_append_left _ m), n.2.2.1, n.2.2.2⟩, k _ _ n.2.2.1 n.2.2.2 g⟩
  have mr : r ∈ rws ++ [r] := List.mem_append_right _ (List.mem_singleton.mpr rfl)
  refine ⟨{ s := fun b x g => k _ _ (ne_of_none g I.n0.1) (ne_of_none g I.n0.2.1) (I.s _ _ g), hh := h1, hr := h2, el := by omega, eh := by omega, z := ?_, ro := fun j q e => ?_, ho := fun j g e => ?_, nd := nd.1, n0 := ⟨I.n0.1, I.n0.2.1, fun q m => I.n0.2.2 q (List.mem_append_left _ m)⟩, ne := ⟨I.ne.1, fun q m => I.ne.2 q (List.mem_append_left _ m)⟩, d3 := by omega }, ⟨I.n0.2.2 r mr, fun m => nd.2.2 r m r (List.mem_singleton.mpr rfl) rfl, (I.ne.2 r mr).1, (I.ne.2 r mr).2⟩, ?_, ?_⟩
  · obtain ⟨L, e⟩ := I.z
    rw [List.getElem?_append_left (by omega)] at e
    exact ⟨L, e⟩
  · have hj := (List.getElem?_eq_some_iff.mp e).1
    obtain ⟨y, rs, g1, g2, g3⟩ := I.ro j q (by rw [List.getElem?_append_left hj]; exact e)
    rw [List.getElem?_append_left (by omega)] at g1
    have mq := I.ne.2 q (List.mem_append_left _ (List.mem_of_getElem? e))
    exact ⟨y, rs, g1, k _ _ mq.1 mq.2 g2, g3.mono fun _ _ g => g.fr kt kl⟩
  · have hj := (List.getElem?_eq_some_iff.mp e).1
    obtain ⟨b', w', vs', L, g1, g2, g3, g4⟩ := I.ho j g (by rw [List.getElem?_append_left hj]; exact e)
    rw [List.getElem?_append_left (by omega)] at g1
    exact ⟨b', w', vs', L, g1, g2, g3, kt _ _ g4⟩
  · obtain ⟨y, rs, g1, g2, g3⟩ := I.ro rws.length r (lat_end rfl)
    rw [lat_end (by omega)] at g1
    cases g1
    have en : 3 - rws.length = 2 - hs.length := by omega
    rw [en] at g3
    exact ⟨rs, k _ _ (I.ne.2 r mr).1 (I.ne.2 r mr).2 g2, g3.mono fun _ _ g => g.fr kt kl⟩
  · obtain ⟨b', w', vs', L, g1, g2, g3, g4⟩ := I.ho hs.length h (lat_end rfl)
    rw [lat_end (by omega)] at g1
    cases g1
    exact ⟨b', w', vs', rfl, g2, g3, kt _ _ g4⟩
theorem preL_app {lv : List (List Ln × List Ln)} {x : List Ln × List Ln} : preL (lv ++ [x]) = preL lv ++ (x.1 ++ x.2) := by
  unfold preL
  rw [List.flatMap_append]
  show _ ++ ((x.1 ++ x.2) ++ []) = _
  rw [List.append_nil]
theorem un_snoc {α : Type} {l : List α} (h : l.length ≠ 0) : ∃ l' a, l = l' ++ [a] := by
  rcases List.eq_nil_or_concat l with e | ⟨l', a, e⟩
  · rw [e] at h
    exact absurd rfl h
  · exact ⟨l', a, by rw [e, List.concat_eq_append]⟩
theorem r_ixEndL {K : PySem.W.Frag} {H : Hp} {Q : VK} {a r : Addr} {rs : List Addr} (h : H a = some (.lst ((rs ++ [r]).map V.ref))) (q : Q (.ref r) H) : rIx K (.ref a) (.int (-1)) H Q := .inl ⟨_, _, _, _, rfl, rfl, .of h, by
  unfold atI ixN
  rw [if_neg (by decide), if_pos (by rw [List.length_map, List.length_append]; show -((rs.length + 1 : Nat) : Int) ≤ -1; omega)]
  show ((rs ++ [r]).map V.ref)[(-1 + (((rs ++ [r]).map V.ref).length : Int)).toNat]? = some (.ref r)
  rw [List.length_map, List.length_append, show (-1 + ((rs.length + [r].length : Nat) : Int)).toNat = rs.length from by (show (-1 + ((rs.length + 1 : Nat) : Int)).toNat = _); omega, List.map_append]
  exact lat_end (by rw [List.length_map]), q⟩
theorem r_popRef {H : Hp} {Q : VK} {l r : Addr} {rs : List Addr} (h : H l = some (.lst ((rs ++ [r]).map V.ref))) (q : Q (.ref r) (upd H l (.lst (rs.map V.ref)))) : rPop (.ref l) [] H Q := by
  refine ⟨l, _, .ref r, rfl, rfl, h, ?_, ?_⟩
  · rw [List.length_map, List.length_append, show rs.length + [r].length - 1 = rs.length from rfl, List.map_append]
    exact lat_end (by rw [List.length_map])
  · rw [List.map_append, show [r].map V.ref = [V.ref r] from rfl, List.dropLast_concat]
    exact q
theorem preL_le {lv : List (List Ln × List Ln)} {x : List Ln × List Ln} (m : x ∈ lv) : x.2.length ≤ (preL lv).length := by
  unfold preL
  induction lv with
  | nil => exact (List.not_mem_nil m).elim
  | cons y r ih =>
    rw [List.flatMap_cons, List.length_append, List.length_append]
    rcases List.mem_cons.mp m with rfl | m
    · omega
    · have := ih m
      omega
theorem Plain.sta {n : Nat} {H : Hp} {N : Addr → Prop} {r : Addr} {ls : List Ln} (h : Plain H r ls) : StaAt n H N r ls := by
  cases n with
  | zero => exact h
  | succ n => exact .inl h
def sp_blocks_of (K : PySem.W.Frag) : Sp := fun vs H Q E => ∃ a, ∃ ls : List Ln, vs = [.ref a] ∧ H a = some (.lst (SgL ls)) ∧ ls.length ≤ 1000 ∧ (∀ l ∈ ls, l.length ≤ 1000000) ∧ (scan 0 ls ≠ some 0 → ∀ H', Same H H' → E (Ex K "NoProgram") none H') ∧ ∀ p H', scan 0 ls = some 0 → Same H H' → ProgAt 3 H' (fun q => H q = none) p ls → Q (.ref p) H'
section
variable {P : Program} {w : World} {K : PySem.W.Frag} {mg : Str → Option Value} {base : Heap}
theorem f_blocks_of (T : Tx K mg) : Fn P w K mg base 5 "blocks_of" ["lines"] (sp_blocks_of K) := by
  have c_statement_of := f_statement_of (P := P) (w := w) (base := base) T
  have c_is_block := f_is_block (P := P) (w := w) (base := base) T
  refine T.mkFn 9 23 (d := d_blocks_of) (N := ["lines", "heads", "rows", "line", "statement", "inner"]) (k := 4) rfl rfl rfl rfl rfl sc_blocks_of (fun _ _ _ _ _ _ us hl => match us, hl with | [_], _ => rfl) (fun vs H Q E h => ?len) (fun cdv A outer s H vs Q E hr h => ⟨_,
      (pss_cons (ps_set (i := 1) sc_blocks_of.nd rfl (Or.inl rfl) (pe_lst pa_nil))
        (pss_cons (ps_set (i := 2) sc_blocks_of.nd rfl (Or.inl rfl) (pe_lst (pa_cons (pe_lst pa_nil) pa_nil)))
        (pss_cons (ps_for (passes_of rfl) rfl (pi_listK (K := K) rfl (pv 0)) (pg_name (i := 3) sc_blocks_of.nd rfl (Or.inl rfl)) (pss_cons (ps_set (i := 4) sc_blocks_of.nd rfl (Or.inl rfl) (pe_fn (takes_of rfl rfl rfl rfl) c_statement_of (hr.mono (by decide)) (by rfl) (pa_cons (pv 3) pa_nil)))
        (pss_one (ps_if (pt_cmpR (op_eqK (K := K) rfl hr.units) (pe_ix (ix_seqK (K := K) rfl) (pv 4) pe_int (fun _ _ => rfl)) pe_str (nomark _)) (pss_cons (ps_if (pt_cmpR (op_eqK (K := K) rfl hr.units) (pv 1) (pe_lst pa_nil) (nomark _)) (pss_one (ps_raiseK (K := K) rfl rfl (takes_of rfl rfl rfl rfl) (T.says.fact 73 rfl) (T.glo 13) (by rfl))) pss_nil)
        (pss_cons (ps_set (i := 5) sc_blocks_of.nd rfl (Or.inl rfl) (pe_bm0 PySem.F.plainAttrs_list PySem.F.slot_list_pop PySem.F.type_list_pop mt_pop (pv 2)))
        (pss_one (ps_expr (pe_bm PySem.F.plainAttrs_list PySem.F.slot_list_append PySem.F.type_list_append mt_append (pe_ix (ix_seqK (K := K) rfl) (pv 2) (pe_un un_neg pe_int) (fun _ _ => rfl)) (pa_cons (pe_op (op_catTK (K := K) rfl) (pe_bm0 PySem.F.plainAttrs_list PySem.F.slot_list_pop PySem.F.type_list_pop mt_pop (pv 1)) (pe_tup (pa_cons (pv 5) pa_nil))) pa_nil)))))) (pss_one (ps_if (pt_val (pe_fn (takes_of rfl rfl rfl rfl) c_is_block (hr.mono (by decide)) (by rfl) (pa_cons (pv 4) pa_nil))) (pss_cons (ps_if (pt_cmpR (op_eqK (K := K) rfl hr.units) (pe_callB (call_lenK (K := K) rfl) (by rfl) (T.free 50) PySem.boot_len (pa_cons (pv 1) pa_nil)) (pe_num (T.num 48) (by rfl)) (nomark _)) (pss_one (ps_raiseK (K := K) rfl rfl (takes_of rfl rfl rfl rfl) (T.says.fact 73 rfl) (T.glo 13) (by rfl))) pss_nil)
        (pss_cons (ps_expr (pe_bm PySem.F.plainAttrs_list PySem.F.slot_list_append PySem.F.type_list_append mt_append (pv 1) (pa_cons (pv 4) pa_nil)))
        (pss_one (ps_expr (pe_bm PySem.F.plainAttrs_list PySem.F.slot_list_append PySem.F.type_list_append mt_append (pv 2) (pa_cons (pe_lst pa_nil) pa_nil)))))) (pss_one (ps_expr (pe_bm PySem.F.plainAttrs_list PySem.F.slot_list_append PySem.F.type_list_append mt_append (pe_ix (ix_seqK (K := K) rfl) (pv 2) (pe_un un_neg pe_int) (fun _ _ => rfl)) (pa_cons (pv 4) pa_nil))))))))))
        (pss_cons (ps_if (pt_cmpR (op_neK (K := K) rfl hr.units) (pv 1) (pe_lst pa_nil) (nomark _)) (pss_one (ps_raiseK (K := K) rfl rfl (takes_of rfl rfl rfl rfl) (T.says.fact 73 rfl) (T.glo 13) (by rfl))) pss_nil)
        (pss_one (ps_ret (pe_ix (ix_seqK (K := K) rfl) (pv 2) pe_int (fun _ _ => rfl)))))))), ?rd⟩)
  case len => obtain ⟨_, _, rfl, _⟩ := h; rfl
  case rd =>
    obtain ⟨a, ls, rfl, ha, hl, h6, bad, q⟩ := h
    have sz : 10000000 ≤ sizeLine := by rw [sizeLine_eq]; omega
    walk_at "wt"
    refine ⟨by omega, fun hd nhd => ⟨by omega, fun r0 nr0 => ⟨by omega, fun rw_ nrw => ?_⟩⟩⟩
    have sa := same_new (o := .lst []) nhd
    have sb := same_new (o := .lst []) nr0
    have sc := same_new (o := .lst [.ref r0]) nrw
    have ha1 := sc _ _ (sb _ _ upd_same)
    have ha2 := sc _ _ upd_same
    have n12 : hd ≠ r0 := ne_of_none upd_same nr0
    have n13 : hd ≠ rw_ := ne_of_none (sb _ _ upd_same) nrw
    have n23 : r0 ≠ rw_ := ne_of_none upd_same nrw
    have I0 : BkI H (upd (upd (upd H hd (.lst [])) r0 (.lst [])) rw_ (.lst [.ref r0])) hd rw_ [] [r0] [([], [])] :=
      { s := (sa.trans sb).trans sc, hh := ha1, hr := upd_same, el := rfl, eh := rfl, z := ⟨[], rfl⟩, ro := fun j r e => by
          cases j with
          | zero => cases e; exact ⟨([], []), [], rfl, ha2, rfl⟩
          | succ j => cases e
        ho := fun j h e => by cases e
        nd := List.nodup_cons.mpr ⟨List.not_mem_nil, List.nodup_nil⟩, n0 := ⟨nhd, none_of (sa.trans sb) nrw, fun r m => by rw [List.mem_singleton.mp m]; exact none_of sa nr0⟩, ne := ⟨n13, fun r m => by rw [List.mem_singleton.mp m]; exact ⟨n12.symm, n23⟩⟩, d3 := Nat.zero_le _ }
    generalize upd (upd (upd H hd (.lst [])) r0 (.lst [])) rw_ (.lst [.ref r0]) = H0 at I0 ⊢
    clear sa sb sc ha1 ha2 n12 n13 n23
    refine ⟨⟨_, .of (I0.s _ _ ha)⟩, forW_list (xs := SgL ls) (fun i σ H' => ∃ hs rws lv o3 o4 o5, σ = [some (.ref a), some (.ref hd), some (.ref rw_), o3, o4, o5] ∧ BkI H H' hd rw_ hs rws lv ∧ preL lv = ls.take i ∧ scan 0 (ls.take i) = some hs.length) ⟨[], [r0], [([], [])], _, _, _, rfl, I0, rfl, rfl⟩ ?_ ?_ ?_⟩
    · rintro i σ H' hi ⟨hs, rws, lv, o3, o4, o5, rfl, I, -⟩
      exact .of (I.s _ _ ha)
    · rintro i x σ H' hx ⟨hs, rws, lv, o3, o4, o5, rfl, I, pl, sc⟩
      obtain ⟨l, el, rfl⟩ := SgL_mem hx
      have il := (List.getElem?_eq_some_iff.mp el).1
      have eq1 : ls = ls.take i ++ l :: ls.drop (i + 1) := by
        have h1 := List.take_append_drop (i + 1) ls
        rw [List.take_add_one, el, List.append_assoc] at h1
        exact h1.symm
      have hsc : scan 0 ls = scan hs.length (l :: ls.drop (i + 1)) := by
        conv => lhs; rw [eq1]
        rw [scan_app, sc]
        rfl
      have tk : ls.take (i + 1) = ls.take i ++ [l] := by rw [List.take_add_one, el]; rfl
      have sc1 : scan 0 (ls.take (i + 1)) = scan hs.length [l] := by
        rw [tk, scan_app, sc]
        rfl
      rw [scan_cons] at hsc sc1
      walk_at "wt"
      refine ⟨l, rfl, h6 l (List.mem_of_getElem? el), ?_⟩
      cases e : stmL l with
      | none =>
        rw [e] at hsc
        exact fun H2 s2 => bad (by rw [hsc]; intro z; cases z) _ (I.s.trans s2)
      | some wv =>
      obtain ⟨w, vs⟩ := wv
      rw [e] at hsc sc1
      dsimp only at hsc sc1 ⊢
      intro t H2 nt s2 ht
      have I2 := I.same s2
      clear I
      refine r_ixT (i := 0) ht rfl ?_
      walk_at "wt"
      by_cases cw : w = wEnd
      · rw [if_pos (show Sg w = ("end" : Str) from by rw [cw]; exact lits.2.2.2.2.2.2.2.2.2.symm)]
        rw [if_pos cw] at hsc sc1
        refine ⟨by omega, fun e0 ne0 => ?_⟩
        have s3 := same_new (o := .lst []) ne0
        have I3 := I2.same s3
        have he0 : upd H2 e0 (.lst []) e0 = some (.lst []) := upd_same
        generalize upd H2 e0 (.lst []) = H3 at s3 I3 he0 ⊢
        clear I2
        refine (r_eqHs I3.hh he0 (fun j h e => ?_) fun b eb => ?_).1
        · obtain ⟨b, w', vs', L, g1, g2, g3, g4⟩ := I3.ho j h e
          obtain ⟨r', s', k1, k2, k3, -⟩ := stm_is g2
          obtain ⟨ds, hds⟩ := readsL_pl k3
          exact ⟨_, _, g4, .cons (.str _ (bl_ok g3)) hds⟩
        · by_cases c0 : hs = []
          · rw [decide_eq_true c0] at eb
            subst eb
            refine ⟨_, rfl, ?_⟩
            rw [if_pos rfl]
            rw [c0] at hsc
            exact bad (by rw [hsc, if_pos (show ([] : List Addr).length = 0 from rfl)]; intro z; cases z) _ I3.s
          · rw [decide_eq_false c0] at eb
            subst eb
            refine ⟨_, rfl, ?_⟩
            rw [if_neg Bool.false_ne_true]
            have l0 : hs.length ≠ 0 := fun z => c0 (List.eq_nil_of_length_eq_zero z)
            rw [if_neg l0] at sc1
            have el3 := I3.el
            have eh3 := I3.eh
            obtain ⟨hs', h, rfl⟩ := un_snoc l0
            obtain ⟨lv', x, rfl⟩ := un_snoc (l := lv) (by omega)
            obtain ⟨rws', r, rfl⟩ := un_snoc (l := rws) (by omega)
            rw [List.length_append, List.length_append] at el3 eh3
            have z1 : [h].length = 1 := rfl
            have z2 : [x].length = 1 := rfl
            have z3 : [r].length = 1 := rfl
            obtain ⟨lv3, y, rfl⟩ := un_snoc (l := lv') (by omega)
            obtain ⟨rws3, r', rfl⟩ := un_snoc (l := rws') (by omega)
            obtain ⟨o, L0⟩ := y
            refine ⟨.inl ⟨rfl, _, .of I3.hr⟩, r_popRef I3.hr ?_⟩
            have hr4 : upd H3 rw_ (.lst ((rws3 ++ [r']).map V.ref)) rw_ = some (.lst ((rws3 ++ [r']).map V.ref)) := upd_same
            have hh4 := (upd_ne (o := .lst ((rws3 ++ [r']).map V.ref)) I3.ne.1).trans I3.hh
            have k4 : ∀ b o, b ≠ rw_ → H3 b = some o → upd H3 rw_ (.lst ((rws3 ++ [r']).map V.ref)) b = some o := fun b o n g => (upd_ne n).trans g
            generalize upd H3 rw_ (.lst ((rws3 ++ [r']).map V.ref)) = H4 at hr4 hh4 k4 ⊢
            refine r_ixEndL hr4 ?_
            have hr5 : upd H4 hd (.lst (hs'.map V.ref)) rw_ = _ := (upd_ne I3.ne.1.symm).trans hr4
            obtain ⟨Ip, nr, ⟨rs, hr5', ch5⟩, b, wb, vb, ex, hb, blb, hh5⟩ := I3.pop (H2 := upd H4 hd (.lst (hs'.map V.ref))) upd_same hr5 fun b o n1 n2 g => (upd_ne n1).trans (k4 b o n2 g)
            obtain ⟨y, rs', g1, g2, g3⟩ := Ip.ro rws3.length r' (lat_end rfl)
            rw [lat_end (by have := Ip.el; rw [List.length_append, List.length_append] at this; have a1 : [r'].length = 1 := rfl; have a2 : [(o, L0)].length = 1 := rfl; omega)] at g1
            cases g1
            have nrd := (Ip.ne.2 r' (List.mem_append_right _ (List.mem_singleton.mpr rfl))).1
            have g4 : H4 r' = some (.lst (rs'.map V.ref)) := by
              rw [← g2]
              exact (upd_ne nrd).symm
            refine ⟨.inl ⟨rfl, _, .of g4⟩, .inl ⟨rfl, _, .of hh4⟩, r_popRef hh4 ?_⟩
            generalize upd H4 hd (.lst (hs'.map V.ref)) = H5 at Ip hr5' ch5 hh5 g2 g3 ⊢
            refine ⟨by omega, fun u nu => ?_⟩
            have s6 := same_new (o := .tup [.ref r]) nu
            have hu : upd H5 u (.tup [.ref r]) u = some (.tup [.ref r]) := upd_same
            generalize upd H5 u (.tup [.ref r]) = H6 at s6 hu ⊢
            have vl : vb.length ≤ 3 := by
              obtain ⟨_, _, _, _, _, _, k5, k6⟩ := stm_is hb
              omega
            refine ⟨h, u, _, _, rfl, rfl, .inl (.inl (s6 _ _ hh5)), .inl (.inl hu), List.cons_ne_nil _ _, by show vb.length + 1 + 1 ≤ _; omega, (fun z => by cases z), fun _ t2 nt2 => ?_⟩
            have s7 := s6.trans (same_new (o := .tup ((.str (Sg wb) :: vb) ++ [.ref r])) nt2)
            have ht2 : upd H6 t2 (.tup ((.str (Sg wb) :: vb) ++ [.ref r])) t2 = some (.tup ((.str (Sg wb) :: vb) ++ [.ref r])) := upd_same
            generalize upd H6 t2 (.tup ((.str (Sg wb) :: vb) ++ [.ref r])) = H7 at s7 ht2 ⊢
            have I7 := Ip.same s7
            have lrs := g3.len fun _ _ g => StaAt.ne g
            have lp : L0.length ≤ (preL (lv3 ++ [(o, L0)] ++ [x])).length := preL_le (x := (o, L0)) (List.mem_append_left _ (List.mem_append_right _ (List.mem_singleton.mpr rfl)))
            rw [pl, List.length_take] at lp
            have lrs : rs'.length ≤ L0.length := lrs
            have hd3 := Ip.d3
            have hd4 := I3.d3
            rw [List.length_append] at hd4
            refine ⟨r', _, .ref t2, rfl, rfl, s7 _ _ g2, by rw [List.length_map]; omega, ?_⟩
            have st : StaAt (3 - hs'.length) H7 (BN H hd rw_ (rws3 ++ [r'])) t2 (b :: (x.2 ++ [wEnd])) := by
              rw [show 3 - hs'.length = (2 - hs'.length) + 1 from by omega]
              exact .inr ⟨b, wb, vb, r, x.2, rs, hb, blb, rfl, ht2, nr, s7 _ _ hr5', ch5.mono fun _ _ g => g.fr (fun c xs g => s7 _ _ g) fun q xs n g => ⟨n, s7 _ _ g⟩⟩
            have I8 := I7.app (s7 _ _ g2) st
            refine ⟨hs', _, _, _, _, _, rfl, I8, ?_, ?_⟩
            · have elw := (stm_end (by rw [← cw]; exact e)).1
              rw [tk, ← pl, preL_app, preL_app, preL_app, ex, elw]
              simp only [List.append_assoc, List.cons_append, List.nil_append]
            · rw [sc1, List.length_append]
              rfl
      · rw [if_neg (show ¬ Sg w = ("end" : Str) from fun z => cw (Sg_inj.mp (z.trans lits.2.2.2.2.2.2.2.2.2)))]
        rw [if_neg cw] at hsc sc1
        refine ⟨t, w, vs, rfl, ht, ?_⟩
        dsimp only
        refine ⟨_, rfl, ?_⟩
        cases bl : isBl w with
        | true =>
          rw [if_pos rfl]
          rw [bl, if_pos rfl] at hsc sc1
          refine r_lenL I2.hh ?_
          rw [List.length_map]
          walk_at "wt"
          by_cases c3 : hs.length = 3
          · rw [if_pos (by omega)]
            exact bad (by rw [hsc, if_pos c3]; intro z; cases z) _ I2.s
          · rw [if_neg (by omega)]
            rw [if_neg c3] at sc1
            have d3 := I2.d3
            have el2 := I2.el
            have eh2 := I2.eh
            refine ⟨.inl ⟨rfl, _, .of I2.hh⟩, hd, _, .ref t, rfl, rfl, I2.hh, by rw [List.length_map]; omega, ?_⟩
            have ka : ∀ b o, b ≠ hd → H2 b = some o → upd H2 hd (.lst (hs.map V.ref ++ [.ref t])) b = some o := fun b o n g => (upd_ne n).trans g
            have hha : upd H2 hd (.lst (hs.map V.ref ++ [.ref t])) hd = some (.lst ((hs ++ [t]).map V.ref)) := by rw [upd_same, List.map_append]; rfl
            have na : ∀ r, upd H2 hd (.lst (hs.map V.ref ++ [.ref t])) r = none → H2 r = none := fun r n => by
              by_cases c : r = hd
              · rw [c, upd_same] at n
                cases n
              · rw [← n]
                exact (upd_ne c).symm
            generalize upd H2 hd (.lst (hs.map V.ref ++ [.ref t])) = Ha at ka hha na ⊢
            have hra := ka _ _ I2.ne.1.symm I2.hr
            refine ⟨.inl ⟨rfl, _, .of hra⟩, by omega, fun r nr => ?_⟩
            have sb := same_new (o := .lst []) nr
            have hrb := sb _ _ hra
            have hr0 : upd Ha r (.lst []) r = some (.lst []) := upd_same
            have hhb := sb _ _ hha
            generalize upd Ha r (.lst []) = Hb at sb hrb hr0 hhb ⊢
            refine ⟨rw_, _, .ref r, rfl, rfl, hrb, by rw [List.length_map]; omega, ?_⟩
            have nrr : r ≠ rw_ := (ne_of_none hra nr).symm
            refine ⟨hs ++ [t], rws ++ [r], lv ++ [([l], [])], _, _, _, rfl, I2.push ((upd_ne (ne_of (sb _ _ (ka _ _ (ne_of ht I2.hh (by intro z; cases z)) ht)) hrb (by intro z; cases z))).trans (sb _ _ (ka _ _ (ne_of ht I2.hh (by intro z; cases z)) ht))) e bl (by omega) (na r nr) ((upd_ne I2.ne.1).trans hhb) (by rw [upd_same, List.map_append]; rfl) ((upd_ne nrr).trans hr0) (fun b o n1 n2 n3 g => (upd_ne n2).trans (sb _ _ (ka _ _ n1 g))), ?_, ?_⟩
            · rw [preL_app, pl, tk]
              rfl
            · rw [sc1, List.length_append]
              rfl
        | false =>
          rw [if_neg Bool.false_ne_true]
          rw [bl, if_neg Bool.false_ne_true] at hsc sc1
          have el2 := I2.el
          have eh2 := I2.eh
          obtain ⟨lv', x, rfl⟩ := un_snoc (l := lv) (by omega)
          obtain ⟨rws', r, rfl⟩ := un_snoc (l := rws) (by omega)
          obtain ⟨o, L⟩ := x
          have z2 : [(o, L)].length = 1 := rfl
          have z3 : [r].length = 1 := rfl
          rw [List.length_append, List.length_append] at el2
          rw [List.length_append] at eh2
          refine r_ixEndL I2.hr ?_
          obtain ⟨y, rs, g1, g2, g3⟩ := I2.ro rws'.length r (lat_end rfl)
          rw [lat_end (by omega)] at g1
          cases g1
          have lrs : rs.length ≤ L.length := g3.len fun _ _ g => StaAt.ne g
          have lp : L.length ≤ (preL (lv' ++ [(o, L)])).length := preL_le (x := (o, L)) (List.mem_append_right _ (List.mem_singleton.mpr rfl))
          rw [pl, List.length_take] at lp
          refine ⟨.inl ⟨rfl, _, .of g2⟩, r, _, .ref t, rfl, rfl, g2, by rw [List.length_map]; omega, ?_⟩
          have st : StaAt (3 - hs.length) H2 (BN H hd rw_ (rws' ++ [r])) t [l] := Plain.sta ⟨l, w, vs, e, bl, cw, rfl, ht⟩
          refine ⟨hs, _, _, _, _, _, rfl, I2.app g2 st, ?_, ?_⟩
          · rw [tk, ← pl, preL_app, preL_app]
            simp only [List.append_assoc]
          · rw [sc1]
            rfl
    · rintro σ H' ⟨hs, rws, lv, o3, o4, o5, rfl, I, pl, sc⟩
      rw [SgL_len, List.take_length] at pl sc
      walk_at "wt"
      refine ⟨by omega, fun e0 ne0 => ?_⟩
      have s3 := same_new (o := .lst []) ne0
      have I3 := I.same s3
      have he0 : upd H' e0 (.lst []) e0 = some (.lst []) := upd_same
      generalize upd H' e0 (.lst []) = H3 at s3 I3 he0 ⊢
      refine (r_eqHs (Q := fun _ _ => True) I3.hh he0 (fun j h e => ?_) fun _ _ => trivial).2 _ fun b eb => ?_
      · obtain ⟨b, w', vs', L, g1, g2, g3, g4⟩ := I3.ho j h e
        obtain ⟨r', s', k1, k2, k3, -⟩ := stm_is g2
        obtain ⟨ds, hds⟩ := readsL_pl k3
        exact ⟨_, _, g4, .cons (.str _ (bl_ok g3)) hds⟩
      · by_cases c0 : hs = []
        · rw [decide_eq_true c0] at eb
          subst eb
          refine ⟨_, rfl, ?_⟩
          rw [if_neg (show ¬ (!true) = true from Bool.false_ne_true)]
          subst c0
          have el2 := I3.el
          have eh2 := I3.eh
          obtain ⟨L, z⟩ := I3.z
          have z0 : ([] : List Addr).length = 0 := rfl
          obtain ⟨r, er⟩ : ∃ r, rws = [r] := List.length_eq_one_iff.mp (by omega)
          obtain ⟨x, ex⟩ : ∃ x, lv = [x] := List.length_eq_one_iff.mp (by omega)
          subst er ex
          cases z
          refine r_ixL (i := 0) I3.hr rfl ?_
          obtain ⟨y, rs, g1, g2, g3⟩ := I3.ro 0 r rfl
          cases g1
          have pl : ls = L := by
            rw [← pl]
            show ([] ++ L) ++ [] = L
            rw [List.append_nil]
            rfl
          subst pl
          exact q r H3 sc I3.s ⟨I3.n0.2.2 r List.mem_cons_self, rs, g2, g3.mono fun _ _ g => g.fr (fun _ _ g => g) fun q xs n g => ⟨n.1, g⟩⟩
        · rw [decide_eq_false c0] at eb
          subst eb
          refine ⟨_, rfl, ?_⟩
          rw [if_pos (show (!false) = true from rfl)]
          exact bad (by rw [sc]; intro z; exact c0 (List.eq_nil_of_length_eq_zero (Option.some.inj z))) _ I3.s
end
/-- what program_of reads -/
def linesT (t : Ln) : List Ln := TL.spl [10] 0 [] t
def sp_program_of (K : PySem.W.Frag) : Sp := fun vs H Q E => (∃ t, vs = [.str (Sg t)] ∧ t.length ≤ 1000000 ∧ ((t = [] ∧ ∀ p H', H p = none → Same H H' → H' p = some (.lst []) → Q (.ref p) H') ∨ t ≠ [] ∧ (linesT t).length ≤ 1000 ∧ (¬ goodL (linesT t) → ∀ H', Same H H' → E (Ex K "NoProgram") none H') ∧ ∀ p H', goodL (linesT t) → Same H H' → ProgAt 3 H' (fun q => H q = none) p (linesT t) → Q (.ref p) H')) ∨ ∃ v ty, vs = [v] ∧ tyOf v H = some ty ∧ ty ≠ "str" ∧ E (Ex K "NoProgram") none H
section
variable {P : Program} {w : World} {K : PySem.W.Frag} {mg : Str → Option Value} {base : Heap}
theorem f_program_of (T : Tx K mg) : Fn P w K mg base 9 "program_of" ["text"] (sp_program_of K) := by
  have c_blocks_of := f_blocks_of (P := P) (w := w) (base := base) T
  have c_names_of := f_names_of (P := P) (w := w) (base := base) T 5
  refine T.mkFn 10 24 (d := d_program_of) (N := ["text", "program"]) (k := 8) rfl rfl rfl rfl rfl sc_program_of (fun _ _ _ _ _ _ us hl => match us, hl with | [_], _ => rfl) (fun vs H Q E h => ?len) (fun cdv A outer s H vs Q E hr h => ⟨_,
      (pss_cons (ps_if (pt_not (pt_val (pe_callB call_gIsi (by rfl) (T.free 49) (by decide +kernel) (pa_cons (pv 0) (pa_cons (pe_ty (T := "str") (T.free 55) (by decide +kernel) (by rfl)) pa_nil))))) (pss_one (ps_raiseK (K := K) rfl rfl (takes_of rfl rfl rfl rfl) (T.says.fact 73 rfl) (T.glo 13) (by rfl))) pss_nil)
        (pss_cons (ps_if (pt_cmpR (op_eqK (K := K) rfl hr.units) (pv 0) pe_str (nomark _)) (pss_one (ps_ret (pe_lst pa_nil))) pss_nil)
        (pss_cons (ps_set (i := 1) sc_program_of.nd rfl (Or.inl rfl) (pe_fn (takes_of rfl rfl rfl rfl) c_blocks_of (hr.mono (by decide)) (by rfl) (pa_cons (pe_bm PySem.F.plainAttrs_str PySem.F.slot_str_split PySem.F.type_str_split mt_splitG (pv 0) (pa_cons pe_str pa_nil)) pa_nil)))
        (pss_cons (ps_if (pt_cmpR op_gt (pe_callB (call_lenK (K := K) rfl) (by rfl) (T.free 50) PySem.boot_len (pa_cons (pe_fn (takes_of rfl rfl rfl rfl) c_names_of (hr.mono (by decide)) (by rfl) (pa_cons (pv 1) pa_nil)) pa_nil)) (pe_num (T.num 46) (by rfl)) (nomark _)) (pss_one (ps_raiseK (K := K) rfl rfl (takes_of rfl rfl rfl rfl) (T.says.fact 73 rfl) (T.glo 13) (by rfl))) pss_nil)
        (pss_one (ps_ret (pv 1))))))), ?rd⟩)
  case len => obtain ⟨_, rfl, _⟩ | ⟨_, _, rfl, _⟩ := h <;> rfl
  case rd =>
    have sz : 10000000 ≤ sizeLine := by rw [sizeLine_eq]; omega
    obtain ⟨t, rfl, hl, h⟩ | ⟨v, ty, rfl, e1, e2, q⟩ := h
    · obtain ⟨y1, y2, y3, y4, y5, y6, y7, y8⟩ := lits2
      walk_at "wt"
      by_cases c0 : t = []
      · rw [if_pos (show Sg t = ("" : Str) from by rw [c0, y7])]
        rcases h with ⟨-, q⟩ | ⟨n, -⟩
        · exact ⟨by omega, fun p np => q p _ np (same_new np) upd_same⟩
        · exact absurd c0 n
      rw [if_neg (show ¬ Sg t = ("" : Str) from fun z => c0 (Sg_inj.mp (z.trans y7)))]
      rcases h with ⟨z, -⟩ | ⟨-, l1, bad, q⟩
      · exact absurd z c0
      refine ⟨rfl, ?_⟩
      rw [y8]
      refine r_split (by decide) (by omega) fun p np => ?_
      have hp : upd H p (.lst (SgL (TL.spl [10] 0 [] t))) p = some (.lst (SgL (linesT t))) := upd_same
      have s1 := same_new (o := .lst (SgL (TL.spl [10] 0 [] t))) np
      generalize upd H p (.lst (SgL (TL.spl [10] 0 [] t))) = H1 at hp s1 ⊢
      obtain ⟨le1, le2⟩ := spl_le (s := 10) (l := t) (acc := [])
      refine ⟨p, linesT t, rfl, hp, l1, fun l m => by have := le2 l m; rw [List.length_nil] at this; omega, fun n H' s' => bad (fun g => n g.1) _ (s1.trans s'), fun b H2 hs s2 pr => ?_⟩
      have s02 := s1.trans s2
      have pr2 : ProgAt 3 H2 (fun q => H q = none) b (linesT t) := pr.fr (fun _ _ g => g) fun q xs n g => ⟨none_of s1 n, g⟩
      refine ⟨b, linesT t, _, 3, by decide, rfl, pr2, by omega, fun r H3 nr s3 hr => ?_⟩
      have ld := dd_len (ks := allN (linesT t))
      have la := allN_len (ls := linesT t)
      refine r_lenL hr ?_
      rw [SgL_len]
      walk_at "wt"
      by_cases c2 : (dd (allN (linesT t))).length ≤ 42
      · rw [if_neg (by omega)]
        exact q b H3 ⟨hs, c2⟩ (s02.trans s3) (pr2.same s3)
      · rw [if_pos (by omega)]
        exact bad (fun g => c2 g.2) _ (s02.trans s3)
    · walk_at "wt"
      refine r_isi e1 ?_
      have eb : isB ty "str" = false := by
        unfold isB
        rw [Bool.or_eq_false_iff]
        exact ⟨by simpa using e2, by simp⟩
      rw [eb]
      walk_at "wt"
      exact q
end

local macro_rules | `(tactic| walk_at "wt") => `(tactic| try simp only [↓x_var0, ↓x_varS, ↓x_c, ↓x_op, ↓x_un, ↓x_cb, ↓x_nil, ↓x_cons, ↓x_test, ↓x_b, ↓x_ex, ↓x_and, ↓x_or, ↓x_not, ↓x_andV, ↓x_orV, ↓x_notV, ↓x_tif, ↓x_chain, ↓x_menu, ↓x_menuI, ↓x_lst, ↓x_tup, ↓x_dnew, ↓x_callW, ↓x_callN, ↓x_seq, ↓x_next, ↓x_ret, ↓x_retN, ↓x_drop, ↓x_ifS, ↓x_asg, ↓x_name, ↓x_raise, ↓x_fld, ↓x_setF, ↓x_meth, ↓x_make, ↓x_sub, ↓r_min, ↓r_max, ↓x_yes, ↓x_for, ↓x_lock, ↓x_keys, ↓x_cut, ↓x_lc, ↓x_rng1, ↓x_rng2, ↓x_lst1, ↓x_itup, ↓x_rng3, ↓x_three, ↓x_lstg, ↓x_tupg, ↓x_adrS, ↓x_one, ↓x_two, ↓x_adr, ↓x_sl, ↓x_np, ↓x_pt, ↓x_int, ↓x_bm, ↓x_bm0, ↓x_consg, ↓x_nilg, ↓x_dget2, ↓x_dget1, ↓x_dgetN, ↓x_dget, ↓x_din, ↓x_dni, ↓x_dput, ↓x_dpop2, ↓r_isB, ↓r_notB, ↓x_enum, ↓x_zip, ↓x_str, ↓x_strE, ↓r_inS, ↓r_ninS, wipe, List.map_cons, List.map_nil, ↓x_isT, ↓r_isiII, ↓r_isiBB, ↓r_isiIB, ↓r_isiSS, ↓r_neNS, ↓r_neSN, ↓r_neNN, ↓r_eqNS, ↓r_eqSN, ↓r_eqNN, ↓r_eqIS, ↓r_neIS, ↓r_neSI, ↓r_neBS, ↓r_eqBB, ↓r_neBB, ↓x_start, ↓x_K, ↓x_start0, ↓r_i0, ↓r_i, ↓r_u, ↓r_addI, ↓r_addS, ↓r_mulI, ↓r_mulS, ↓r_eqI, ↓r_neI, ↓r_eqS, ↓r_neS, ↓r_absI, ↓r_intI, ↓r_intB, List.length_cons, List.length_nil, List.replicate, List.set_cons_zero, List.set_cons_succ, decide_eq_true_eq, Bool.not_eq_true', decide_eq_false_iff_not, if_true, if_false, Bool.false_eq_true, Bool.true_eq_false, ite_true, ite_false, Bool.not_true, Bool.not_false, c_div, n_ten, c_pow, not_true_eq_false, not_false_eq_true, decide_true, decide_false, true_and, and_true, and_self, true_or, or_true, Int.reduceLT, Int.reduceLE, Int.reduceMul, Int.reduceAdd, Int.reduceSub, Int.reducePow, Int.reduceNeg, Int.reduceDiv, Int.reduceMod, Nat.reducePow, Int.reduceToNat, Int.reduceEq, Int.reduceNe, Nat.reduceLT, Nat.reduceLeDiff, Nat.reduceAdd, ↓x_whole, ↓r_repS, ↓r_repS, ↓r_repS, ↓r_repS, ↓r_repS, ↓r_repS, ↓x_zipS, ↓r_repS, ↓r_repS, ↓r_repS])
/-! ## the law's own look at lines -/
def sp_isname (_ : PySem.W.Frag) : Sp := fun vs H Q _ => ∃ p, vs = [.str (Sg p)] ∧ p.length ≤ 1000000 ∧ (∀ c ∈ p, c < 128) ∧ ∀ H', Same H H' → Q (.bl (isNm p)) H'
def sp_isnum (_ : PySem.W.Frag) : Sp := fun vs H Q _ => ∃ p, vs = [.str (Sg p)] ∧ p.length ≤ 1000000 ∧ (∀ c ∈ p, c < 128) ∧ ∀ H', Same H H' → Q (.bl (numP p).isSome) H'
def sp_fits (_ : PySem.W.Frag) : Sp := fun vs H Q _ => ∃ l, vs = [.str (Sg l)] ∧ l.length ≤ 100000 ∧ (∀ c ∈ l, c < 128) ∧ ∀ H', Same H H' → Q (.bl (stmL l).isSome) H'
def sp_lawN (_ : PySem.W.Frag) : Sp := fun vs H Q _ => ∃ a, ∃ ls : List Ln, vs = [.ref a] ∧ H a = some (.lst (SgL ls)) ∧ ls.length ≤ 1000 ∧ (∀ l ∈ ls, l.length ≤ 10000 ∧ ∀ c ∈ l, c < 128) ∧ ∀ p H', H p = none → Same H H' → H' p = some (.lst (SgL (dd (lawN ls)))) → Q (.ref p) H'
instance decGood {ls : List Ln} : Decidable (goodL ls) := by
  unfold goodL
  infer_instance
def goodB (ls : List Ln) : Bool := decide (goodL ls)
def sp_good (_ : PySem.W.Frag) : Sp := fun vs H Q _ => ∃ a, ∃ ls : List Ln, vs = [.ref a] ∧ H a = some (.lst (SgL ls)) ∧ ls.length ≤ 1000 ∧ (∀ l ∈ ls, l.length ≤ 10000 ∧ ∀ c ∈ l, c < 128) ∧ ∀ H', Same H H' → Q (.bl (goodB ls)) H'
theorem asc_ok {p : Ln} (h : ∀ c ∈ p, c < 128) : PyData.strOk (Sg p) = true := by
  unfold PyData.strOk
  rw [List.all_toArray]
  refine List.all_eq_true.mpr fun c m => ?_
  have := h c m
  exact decide_eq_true (by omega)
theorem SgL_pl {ps : List Ln} (h : ∀ p ∈ ps, ∀ c ∈ p, c < 128) : ∃ ds, PlAll (SgL ps) ds ∧ (ds = [] ↔ ps = []) := by
  induction ps with
  | nil => exact ⟨[], .nil, (fun _ => rfl), (fun _ => rfl)⟩
  | cons p r ih =>
    obtain ⟨ds, d1, -⟩ := ih fun q m => h q (List.mem_cons_of_mem _ m)
    exact ⟨_, .cons (.str _ (asc_ok (h p List.mem_cons_self))) d1, (fun z => by cases z), (fun z => by cases z)⟩
theorem r_eqNilS {K : PySem.W.Frag} {H : Hp} {Q : VK} {a b : Addr} {ps : List Ln} (h1 : H a = some (.lst (SgL ps))) (h2 : H b = some (.lst [])) (h : ∀ p ∈ ps, ∀ c ∈ p, c < 128) (q : Q (.bl (decide (ps = []))) H) : gEq K (.ref a) (.ref b) H Q := by
  obtain ⟨ds, d1, d2⟩ := SgL_pl h
  refine r_eqPl h1 h2 d1 .nil ?_
  rw [eqv_list0, decide_eq_decide.mpr d2]
  exact q
theorem r_neNilS {K : PySem.W.Frag} {H : Hp} {Q : VK} {a b : Addr} {ps : List Ln} (h1 : H a = some (.lst (SgL ps))) (h2 : H b = some (.lst [])) (h : ∀ p ∈ ps, ∀ c ∈ p, c < 128) (q : Q (.bl (!decide (ps = []))) H) : gNe K (.ref a) (.ref b) H Q := by
  obtain ⟨ds, d1, d2⟩ := SgL_pl h
  refine r_nePl h1 h2 d1 .nil ?_
  rw [eqv_list0, decide_eq_decide.mpr d2]
  exact q
theorem shp_none {p : Ln} : shpL p = none ↔ p ∉ W10 := by
  unfold shpL
  simp only [List.mem_cons, List.not_mem_nil, or_false, not_or]
  constructor
  · intro h
    repeat' split at h
    all_goals first
      | (cases h; done)
      | (refine ⟨?_, ?_, ?_, ?_, ?_, ?_, ?_, ?_, ?_, ?_⟩ <;> intro z <;> simp_all)
  · rintro ⟨h1, h2, h3, h4, h5, h6, h7, h8, h9, h10⟩
    rw [if_neg (by rintro (z | z | z); exact h4 z; exact h7 z; exact h9 z), if_neg (by rintro (z | z); exact h1 z; exact h2 z), if_neg h3, if_neg h5, if_neg h6, if_neg h8, if_neg h10]
theorem cutV_toL {xs : List V} {k : Nat} : cutV xs none (some (k : Int)) = xs.take k := by
  unfold cutV
  rw [HT.sIx_none, HT.sIx_nat, List.drop_zero, Nat.sub_zero]
  by_cases h : k ≤ xs.length
  · rw [Nat.min_eq_left h]
  · rw [Nat.min_eq_right (by omega), List.take_length, List.take_of_length_le (by omega)]
theorem cutV_fromL {xs : List V} {k : Nat} : cutV xs (some (k : Int)) none = xs.drop k := by
  unfold cutV
  rw [HT.sIx_nat, HT.sIx_none]
  by_cases c : k ≤ xs.length
  · rw [Nat.min_eq_left c, List.take_of_length_le (by rw [List.length_drop]; exact Nat.le_refl _)]
  · rw [Nat.min_eq_right (by omega), List.drop_of_length_le (Nat.le_refl _), List.drop_of_length_le (by omega), List.take_nil]
theorem filtW_snoc {g : Ln → Bool} {L : List Ln} {i : Nat} {x : Ln} (h : L[i]? = some x) : (L.take (i + 1)).filter g = (L.take i).filter g ++ if g x = true then [x] else [] := by
  rw [List.take_add_one, h, List.filter_append]
  congr 1
  show List.filter g [x] = _
  rw [List.filter_cons]
  rfl
theorem shp_size {w : Ln} {k : Nat} (hk : W10[k]? = some w) : ∃ s, shpL w = some s ∧ s.length + 1 = ZS.getD k 0 := by
  match k, hk with
  | 0, hk => cases hk; exact ⟨[110, 99], by decide, rfl⟩
  | 1, hk => cases hk; exact ⟨[110, 99], by decide, rfl⟩
  | 2, hk => cases hk; exact ⟨[110, 110], by decide, rfl⟩
  | 3, hk => cases hk; exact ⟨[110], by decide, rfl⟩
  | 4, hk => cases hk; exact ⟨[110, 110, 99], by decide, rfl⟩
  | 5, hk => cases hk; exact ⟨[110, 99, 110], by decide, rfl⟩
  | 6, hk => cases hk; exact ⟨[110], by decide, rfl⟩
  | 7, hk => cases hk; exact ⟨[116], by decide, rfl⟩
  | 8, hk => cases hk; exact ⟨[110], by decide, rfl⟩
  | 9, hk => cases hk; exact ⟨[], by decide, rfl⟩
  | k + 10, hk => cases hk
theorem idx_first {p : Ln} : ∀ {L : List Ln} {m : Nat} {x : Ln}, m < L.idxOf p → L[m]? = some x → x ≠ p
  | [], m, x, h, e => by cases e
  | y :: r, m, x, h, e => by
    rw [List.idxOf_cons] at h
    by_cases c : y = p
    · subst c
      rw [beq_self_eq_true] at h
      exact absurd h (Nat.not_lt_zero _)
    · rw [beq_false_of_ne c] at h
      have h : m < r.idxOf p + 1 := h
      cases m with
      | zero =>
        cases e
        exact c
      | succ m => exact idx_first (L := r) (m := m) (by omega) e
theorem filt_snoc {g : Nat → Bool} {p : Ln} {i c : Nat} (h : p[i]? = some c) : (p.take (i + 1)).filter g = (p.take i).filter g ++ if g c = true then [c] else [] := by
  rw [List.take_add_one, h, List.filter_append]
  congr 1
  show List.filter g [c] = _
  rw [List.filter_cons]
  rfl
theorem ones_snoc {a : Ln} {c : Nat} : SgL ((a ++ [c]).map fun c => [c]) = SgL (a.map fun c => [c]) ++ [V.str (Sg [c])] := by
  unfold SgL
  rw [List.map_append, List.map_append]
  rfl
theorem dd_snoc {ks : List Ln} {z : Ln} : dd (ks ++ [z]) = if z ∈ dd ks then dd ks else dd ks ++ [z] := by rw [dd_app]; rfl
theorem lawN_len {B : Nat} {ls : List Ln} (h : ∀ l ∈ ls, l.length ≤ B) : (lawN ls).length ≤ ls.length * (B + 1) := by
  unfold lawN
  induction ls with
  | nil => exact Nat.zero_le _
  | cons l r ih =>
    rw [List.flatMap_cons, List.length_append, List.length_cons, Nat.add_mul, Nat.one_mul]
    have h1 := ih fun x m => h x (List.mem_cons_of_mem _ m)
    have h2 := List.length_filter_le (fun p : Ln => (numP p).isNone) ((TL.spl [32] 0 [] l).drop 1)
    rw [List.length_drop] at h2
    have h3 := (spl_le (s := 32) (l := l) (acc := [])).1
    have h4 := h l List.mem_cons_self
    omega
theorem spl_sub {s c : Nat} : ∀ {l acc : List Nat}, c ∉ acc → ∀ p ∈ TL.spl [s] 0 acc l, c ∈ p → c ∈ l
  | [], acc, h, p, m, mc => by
    rw [TL.spl_nil] at m
    rw [List.mem_singleton.mp m] at mc
    exact absurd mc h
  | x :: l, acc, h, p, m, mc => by
    rw [spl_cons] at m
    split at m
    · rcases List.mem_cons.mp m with rfl | m
      · exact absurd mc h
      · exact List.mem_cons_of_mem _ (spl_sub (s := s) (l := l) (acc := []) List.not_mem_nil p m mc)
    · by_cases cx : c = x
      · rw [cx]
        exact List.mem_cons_self
      · refine List.mem_cons_of_mem _ (spl_sub (s := s) (l := l) (acc := acc ++ [x]) (fun z => ?_) p m mc)
        rcases List.mem_append.mp z with z | z
        · exact h z
        · exact cx (List.mem_singleton.mp z)
theorem blk_pre {l w : Ln} {vs : List V} (h : stmL l = some (w, vs)) : (l.take 3 = [105, 102, 32] ∨ l.take 6 = [97, 103, 97, 105, 110, 32]) ↔ isBl w = true := by
  obtain ⟨r, s, e1, e2, e3, e4, e5, -⟩ := stm_is h
  have jl := join_spl (s := 32) (l := l) (acc := [])
  rw [e1, List.nil_append] at jl
  constructor
  · rintro (z | z)
    · have : l = 105 :: 102 :: 32 :: l.drop 3 := by
        conv => lhs; rw [← List.take_append_drop 3 l, z]
        rfl
      rw [this, spl_cons, spl_cons, spl_cons] at e1
      have : w = wIf := (List.cons.inj e1).1.symm
      exact decide_eq_true (.inr this)
    · have : l = 97 :: 103 :: 97 :: 105 :: 110 :: 32 :: l.drop 6 := by
        conv => lhs; rw [← List.take_append_drop 6 l, z]
        rfl
      rw [this, spl_cons, spl_cons, spl_cons, spl_cons, spl_cons, spl_cons] at e1
      have : w = wAgain := (List.cons.inj e1).1.symm
      exact decide_eq_true (.inl this)
  · intro b
    have one : s.length = 1 := by
      rcases of_decide_eq_true b with rfl | rfl
      · rw [show shpL wAgain = some [116] from by decide] at e2
        cases e2
        rfl
      · rw [show shpL wIf = some [110] from by decide] at e2
        cases e2
        rfl
    obtain ⟨x, ex⟩ := List.length_eq_one_iff.mp (e4.trans one)
    rw [ex] at jl
    have jl : w ++ ([32] ++ x) = l := jl
    rcases of_decide_eq_true b with rfl | rfl
    · right
      rw [← jl]
      rfl
    · left
      rw [← jl]
      rfl
theorem end_is {l w : Ln} {vs : List V} (h : stmL l = some (w, vs)) : l = wEnd ↔ w = wEnd := by
  constructor
  · intro e
    rw [e, stm_wEnd] at h
    cases h
    rfl
  · intro e
    subst e
    exact (stm_end h).1
theorem dig_lits : SgL digW = [.str "0", .str "1", .str "2", .str "3", .str "4", .str "5", .str "6", .str "7", .str "8", .str "9"] := by
  show [V.str (Sg [48]), V.str (Sg [49]), V.str (Sg [50]), V.str (Sg [51]), V.str (Sg [52]), V.str (Sg [53]), V.str (Sg [54]), V.str (Sg [55]), V.str (Sg [56]), V.str (Sg [57])] = _
  rw [show Sg [48] = ("0" : Str) from by decide +kernel, show Sg [49] = ("1" : Str) from by decide +kernel, show Sg [50] = ("2" : Str) from by decide +kernel, show Sg [51] = ("3" : Str) from by decide +kernel, show Sg [52] = ("4" : Str) from by decide +kernel, show Sg [53] = ("5" : Str) from by decide +kernel, show Sg [54] = ("6" : Str) from by decide +kernel, show Sg [55] = ("7" : Str) from by decide +kernel, show Sg [56] = ("8" : Str) from by decide +kernel, show Sg [57] = ("9" : Str) from by decide +kernel]
theorem lits3 : ("if " : Str) = Sg [105, 102, 32] ∧ ("again " : Str) = Sg [97, 103, 97, 105, 110, 32] := ⟨by decide +kernel, by decide +kernel⟩
section
variable {P : Program} {w : World} {K : PySem.W.Frag} {mg : Str → Option Value} {base : Heap}
theorem f__law_is_name (T : Tx K mg) : Fn P w K mg base 1 "_law_is_name" ["_law_word"] (sp_isname K) := by
  refine T.mkFn 20 34 (d := d__law_is_name) (N := ["_law_word", "_law_strange", "_law_sign", "_law_own"]) (k := 0) rfl rfl rfl rfl rfl sc__law_is_name (fun _ _ _ _ _ _ us hl => match us, hl with | [_], _ => rfl) (fun vs H Q E h => ?len) (fun cdv A outer s H vs Q E hr h => ⟨_,
      (pss_cons (ps_setLc (i := 1) (own := [("_law_sign", 2)]) (g := gName 2) rfl sc__law_is_name.nd rfl rfl (sw_true rfl rfl rfl (by decide +kernel)) (pi_str (pv 0)) (blkOk_by (own := [("_law_sign", 2)]) (N := ["_law_word", "_law_strange", "_law_sign", "_law_own"]) (sc := defScope s__law_is_name) (by decide +kernel)) (fun _ _ _ _ _ => (pg_name (i := 2) sc__law_is_name.nd rfl (Or.inl rfl))) (fun _ _ _ _ _ => pts_one (pt_cmpR op_gNinS (pv 2) pe_str (by rfl))) (fun _ _ _ _ _ => (pv 2)))
        (pss_cons (ps_set (i := 3) sc__law_is_name.nd rfl (Or.inl rfl) (pe_lst (pa_cons pe_str (pa_cons pe_str (pa_cons pe_str (pa_cons pe_str (pa_cons pe_str (pa_cons pe_str (pa_cons pe_str (pa_cons pe_str (pa_cons pe_str (pa_cons pe_str pa_nil))))))))))))
        (pss_one (ps_ret (pe_and (pe_chain op_le op_le pe_int (pe_callB (call_lenK (K := K) rfl) (by rfl) (T.free 50) PySem.boot_len (pa_cons (pv 0) pa_nil)) pe_int) (pe_and (pe_cmpR (op_eqK (K := K) rfl hr.units) (pv 1) (pe_lst pa_nil) (nomark _)) (pe_one (pe_cmpR (op_ninK (K := K) rfl) (pv 0) (pv 3) (by rfl))))))))), ?rd⟩)
  case len => obtain ⟨_, rfl, _⟩ := h; rfl
  case rd =>
    obtain ⟨p, rfl, hl, ha, q⟩ := h
    have sz : 10000000 ≤ sizeLine := by rw [sizeLine_eq]; omega
    obtain ⟨z1, z2, z3, z4, z5, z6, z7, z8, z9, z10⟩ := lits
    walk_at "wt"
    refine fun D nD => lc_it walk_str (fun i Hx => Same H Hx ∧ Hx D = some (.lst (SgL (((p.take i).filter fun c => !isLet c).map fun c => [c])))) ⟨same_new nD, upd_same⟩ (fun _ _ _ _ => trivial) (fun i x Hx Hy hi e y => ?_) fun Hx e => ?_
    · obtain ⟨rfl, c, ec, rfl⟩ := y
      obtain ⟨sx, hD⟩ := e
      have ec : p[i]? = some c := by
        have : p.toArray[i]? = some c := ec
        simpa using this
      have il := (List.getElem?_eq_some_iff.mp ec).1
      walk_at "wt"
      simp only [let_inP, filt_snoc ec]
      cases ed : isLet c with
      | true =>
        walk_at "wt"
        rw [List.append_nil]
        exact ⟨sx, hD⟩
      | false =>
        walk_at "wt"
        have lf := List.length_filter_le (fun c => !isLet c) (p.take i)
        rw [List.length_take] at lf
        refine ⟨_, hD, by rw [SgL_len, List.length_map]; omega, fun b x g => (upd_ne (ne_of_none g nD)).trans (sx _ _ g), ?_⟩
        rw [upd_same, ones_snoc]
    obtain ⟨s1, hD⟩ := e
    rw [show p.take (Sg p).cps.size = p from List.take_of_length_le (Nat.le_refl _)] at hD
    refine ⟨by omega, fun o no => ?_⟩
    have s2 := same_new (o := .lst [.str "make", .str "keep", .str "copy", .str "drop", .str "get", .str "set", .str "tell", .str "again", .str "if", .str "end"]) no
    have ho : upd Hx o (.lst [.str "make", .str "keep", .str "copy", .str "drop", .str "get", .str "set", .str "tell", .str "again", .str "if", .str "end"]) o = some (.lst (SgL W10)) := by
      rw [z1, z2, z3, z4, z5, z6, z7, z8, z9, z10]
      exact upd_same
    have hD2 := s2 _ _ hD
    have s02 := s1.trans s2
    generalize upd Hx o (.lst [.str "make", .str "keep", .str "copy", .str "drop", .str "get", .str "set", .str "tell", .str "again", .str "if", .str "end"]) = H2 at ho hD2 s02 ⊢
    have bad : ∀ H', Same H H' → ¬ (1 ≤ p.length ∧ p.length ≤ 8 ∧ p.all isLet = true ∧ shpL p = none) → Q (.bl false) H' := fun H' s e => by
      have := q H' s
      rw [show isNm p = false from decide_eq_false e] at this
      exact this
    refine r_lenStr ⟨by omega, ?_⟩
    walk_at "wt"
    by_cases c1 : (1 : Int) ≤ p.length
    · rw [if_pos c1]
      by_cases c2 : (p.length : Int) ≤ 8
      · rw [if_pos c2]
        refine ⟨by omega, fun e0 ne0 => ?_⟩
        have s3 := same_new (o := .lst []) ne0
        refine r_eqNilS (s3 _ _ hD2) upd_same (fun x mx c mc => ?_) ?_
        · obtain ⟨y, my, rfl⟩ := List.mem_map.mp mx
          rw [List.mem_singleton.mp mc]
          exact ha y (List.mem_filter.mp my).1
        refine ⟨_, rfl, ?_⟩
        by_cases c3 : p.all isLet = true
        · have ef : ((p.filter fun c => !isLet c).map fun c => [c]) = [] := by
            rw [List.filter_eq_nil_iff.mpr fun c m => by rw [List.all_eq_true.mp c3 c m]; exact Bool.false_ne_true]
            rfl
          rw [decide_eq_true ef, if_pos rfl]
          refine r_ninL (.of (s3 _ _ ho)) rfl SgL_flat ?_
          rw [inV_S]
          have := q _ (s02.trans s3)
          have e : isNm p = !decide (p ∈ W10) := by
            unfold isNm
            by_cases m : p ∈ W10
            · rw [decide_eq_true m]
              exact decide_eq_false fun z => shp_none.mp z.2.2.2 m
            · rw [decide_eq_false m]
              exact decide_eq_true ⟨by omega, by omega, c3, shp_none.mpr m⟩
          rw [e] at this
          exact this
        · have ef : ¬ ((p.filter fun c => !isLet c).map fun c => [c]) = [] := fun z => by
            have z := List.filter_eq_nil_iff.mp (List.map_eq_nil_iff.mp z)
            refine c3 (List.all_eq_true.mpr fun c m => ?_)
            have := z c m
            cases e : isLet c with
            | true => rfl
            | false => rw [e] at this; exact absurd rfl this
          rw [decide_eq_false ef, if_neg Bool.false_ne_true]
          exact bad _ (s02.trans s3) fun z => c3 z.2.2.1
      · rw [if_neg c2]
        exact bad _ s02 fun z => by omega
    · rw [if_neg c1]
      exact bad _ s02 fun z => by omega
theorem f__law_is_number (T : Tx K mg) : Fn P w K mg base 1 "_law_is_number" ["_law_word"] (sp_isnum K) := by
  refine T.mkFn 21 35 (d := d__law_is_number) (N := ["_law_word", "_law_figures", "_law_sign"]) (k := 0) rfl rfl rfl rfl rfl sc__law_is_number (fun _ _ _ _ _ _ us hl => match us, hl with | [_], _ => rfl) (fun vs H Q E h => ?len) (fun cdv A outer s H vs Q E hr h => ⟨_,
      (pss_cons (ps_set (i := 1) sc__law_is_number.nd rfl (Or.inl rfl) (pe_slice sl_str (pv 0) (po_some (pe_callTy call_gInt (by rfl) (T.free 53) (by decide +kernel) (pa_cons (pe_cmpR (op_eqK (K := K) rfl hr.units) (pe_slice sl_str (pv 0) po_none (po_some pe_int)) pe_str (nomark _)) pa_nil))) po_none))
        (pss_cons (ps_if (PW.pt (pw_or (pt_not (pt_chain op_le op_le pe_int (pe_callB (call_lenK (K := K) rfl) (by rfl) (T.free 50) PySem.boot_len (pa_cons (pv 1) pa_nil)) pe_int)) (pw_or1 (pt_cmpR (op_neK (K := K) rfl hr.units) (pe_lc (own := [("_law_sign", 2)]) (g := gName 2) rfl sc__law_is_number.nd (pi_str (pv 1)) (blkOk_by (own := [("_law_sign", 2)]) (N := ["_law_word", "_law_figures", "_law_sign"]) (sc := defScope s__law_is_number) (by decide +kernel)) (fun _ _ _ _ _ => (pg_name (i := 2) sc__law_is_number.nd rfl (Or.inl rfl))) (fun _ _ _ _ _ => pts_one (pt_cmpR op_gNinS (pv 2) pe_str (by rfl))) (fun _ _ _ _ _ => (pv 2))) (pe_lst pa_nil) (nomark _))))) (pss_one (ps_ret pe_bl)) pss_nil)
        (pss_one (ps_ret (pe_or (pe_cmpR (op_neK (K := K) rfl hr.units) (pe_ix (ix_seqK (K := K) rfl) (pv 1) pe_int (fun _ _ => rfl)) pe_str (nomark _)) (pe_one (pe_cmpR (op_eqK (K := K) rfl hr.units) (pv 0) pe_str (nomark _)))))))), ?rd⟩)
  case len => obtain ⟨_, rfl, _⟩ := h; rfl
  case rd =>
    obtain ⟨p, rfl, hl, ha, q⟩ := h
    have sz : 10000000 ≤ sizeLine := by rw [sizeLine_eq]; omega
    have e1 := bodyP_lit.1
    have e2 := bodyP_lit.2.1
    have e3 := bodyP_lit.2.2
    have bl : (bodyP p).length ≤ p.length := body_len
    walk_at "wt"
    refine r_slStr (by omega) ?_
    rw [cutL_to1]
    walk_at "wt"
    have eb : cutL p (some (if Sg (p.take 1) = ("-" : Str) then 1 else 0)) none = bodyP p := by
      unfold bodyP
      by_cases c : p.take 1 = [45]
      · rw [if_pos (show Sg (p.take 1) = ("-" : Str) from by rw [c]; exact e1), if_pos c, cutL_from1]
      · rw [if_neg (show ¬ Sg (p.take 1) = ("-" : Str) from fun z => c (Sg_inj.mp (z.trans e1.symm))), if_neg c]
        exact cutL_from (k := 0)
    refine r_slStr (by omega) ?_
    rw [eb]
    have no : ∀ H', Same H H' → numP p = none → Q (.bl false) H' := fun H' s e => by
      have := q H' s
      rw [e] at this
      exact this
    have yes : ∀ H', Same H H' → ¬ (bodyP p = [] ∨ 60 < (bodyP p).length ∨ ((bodyP p).head? = some 48 ∧ p ≠ [48])) → (bodyP p).all isDig = true → Q (.bl true) H' := fun H' s n d => by
      have := q H' s
      rw [show (numP p).isSome = true from by unfold numP; rw [if_neg n, if_pos d]; rfl] at this
      exact this
    have none1 : (bodyP p = [] ∨ 60 < (bodyP p).length ∨ ((bodyP p).head? = some 48 ∧ p ≠ [48])) → numP p = none := fun c => by
      unfold numP
      rw [if_pos c]
    have hab : ∀ c ∈ bodyP p, c < 128 := fun c m => ha c (by
      unfold bodyP at m
      split at m
      · exact List.mem_of_mem_drop m
      · exact m)
    refine r_lenStr ⟨by omega, ?_⟩
    walk_at "wt"
    by_cases c1 : (1 : Int) ≤ (bodyP p).length
    · rw [if_pos c1]
      by_cases c2 : ((bodyP p).length : Int) ≤ 60
      · rw [if_neg (fun z => z c2)]
        refine fun D nD => lc_it walk_str (fun i Hx => Same H Hx ∧ Hx D = some (.lst (SgL ((((bodyP p).take i).filter fun c => !isDig c).map fun c => [c])))) ⟨same_new nD, upd_same⟩ (fun _ _ _ _ => trivial) (fun i x Hx Hy hi e y => ?_) fun Hx e => ?_
        · obtain ⟨rfl, c, ec, rfl⟩ := y
          obtain ⟨sx, hD⟩ := e
          have ec : (bodyP p)[i]? = some c := by
            have : (bodyP p).toArray[i]? = some c := ec
            simpa using this
          have il := (List.getElem?_eq_some_iff.mp ec).1
          walk_at "wt"
          simp only [fig_inP, filt_snoc ec]
          cases ed : isDig c with
          | true =>
            walk_at "wt"
            rw [List.append_nil]
            exact ⟨sx, hD⟩
          | false =>
            walk_at "wt"
            have lf := List.length_filter_le (fun c => !isDig c) ((bodyP p).take i)
            rw [List.length_take] at lf
            refine ⟨_, hD, by rw [SgL_len, List.length_map]; omega, fun b x g => (upd_ne (ne_of_none g nD)).trans (sx _ _ g), ?_⟩
            rw [upd_same, ones_snoc]
        obtain ⟨s1, hD⟩ := e
        rw [show (bodyP p).take (Sg (bodyP p)).cps.size = bodyP p from List.take_of_length_le (Nat.le_refl _)] at hD
        refine ⟨by omega, fun e0 ne0 => ?_⟩
        have s3 := same_new (o := .lst []) ne0
        have s03 := s1.trans s3
        refine r_neNilS (s3 _ _ hD) upd_same (fun x mx c mc => ?_) ?_
        · obtain ⟨y, my, rfl⟩ := List.mem_map.mp mx
          rw [List.mem_singleton.mp mc]
          exact hab y (List.mem_filter.mp my).1
        refine ⟨_, rfl, ?_⟩
        by_cases c3 : (bodyP p).all isDig = true
        · have ef : (((bodyP p).filter fun c => !isDig c).map fun c => [c]) = [] := by
            rw [List.filter_eq_nil_iff.mpr fun c m => by rw [List.all_eq_true.mp c3 c m]; exact Bool.false_ne_true]
            rfl
          rw [decide_eq_true ef, if_neg (show ¬ (!true) = true from Bool.false_ne_true)]
          obtain ⟨c0, r0, er⟩ : ∃ c r, bodyP p = c :: r := by
            cases e : bodyP p with
            | nil => rw [e] at c1; exact absurd c1 (by decide)
            | cons c r => exact ⟨c, r, rfl⟩
          have nb : ¬ bodyP p = [] := fun z => by rw [z] at er; cases er
          have hh : (bodyP p).head? = some c0 := by rw [er]; rfl
          refine r_ixStr (i := 0) (by omega) (by rw [er]; rfl) ?_
          walk_at "wt"
          by_cases c4 : c0 = 48
          · rw [if_neg (show ¬ ¬ Sg [c0] = ("0" : Str) from fun z => z (by rw [c4]; exact e3))]
            by_cases c5 : p = [48]
            · rw [decide_eq_true (show Sg p = ("0" : Str) from by rw [c5]; exact e3)]
              exact yes _ s03 (by rintro (z | z | z); exact nb z; omega; exact z.2 c5) c3
            · rw [decide_eq_false (show ¬ Sg p = ("0" : Str) from fun z => c5 (Sg_inj.mp (z.trans e3.symm)))]
              exact no _ s03 (none1 (.inr (.inr ⟨by rw [hh, c4], c5⟩)))
          · rw [if_pos (show ¬ Sg [c0] = ("0" : Str) from fun z => c4 (List.cons.inj (Sg_inj.mp (z.trans e3.symm))).1)]
            exact yes _ s03 (by rintro (z | z | z); exact nb z; omega; exact c4 (by have := z.1; rw [hh] at this; exact Option.some.inj this)) c3
        · have ef : ¬ (((bodyP p).filter fun c => !isDig c).map fun c => [c]) = [] := fun z => by
            have z := List.filter_eq_nil_iff.mp (List.map_eq_nil_iff.mp z)
            refine c3 (List.all_eq_true.mpr fun c m => ?_)
            have := z c m
            cases e : isDig c with
            | true => rfl
            | false => rw [e] at this; exact absurd rfl this
          rw [decide_eq_false ef, if_pos (show (!false) = true from rfl)]
          exact no _ s03 (by
            unfold numP
            rw [if_neg c3]
            split <;> rfl)
      · rw [if_pos c2]
        exact no _ (Same.refl _) (none1 (.inr (.inl (by omega))))
    · rw [if_neg c1]
      exact no _ (Same.refl _) (none1 (.inl (List.eq_nil_of_length_eq_zero (by omega))))
theorem f__law_fits (T : Tx K mg) : Fn P w K mg base 2 "_law_fits" ["_law_line"] (sp_fits K) := by
  have c__law_is_name := f__law_is_name (P := P) (w := w) (base := base) T
  have c__law_is_number := f__law_is_number (P := P) (w := w) (base := base) T
  refine T.mkFn 22 36 (d := d__law_fits) (N := ["_law_line", "_law_words", "_law_names_here", "_law_sizes", "_law_own", "_law_rest", "_law_many", "_law_word"]) (k := 1) rfl rfl rfl rfl rfl sc__law_fits (fun _ _ _ _ _ _ us hl => match us, hl with | [_], _ => rfl) (fun vs H Q E h => ?len) (fun cdv A outer s H vs Q E hr h => ⟨_,
      (pss_cons (ps_set (i := 1) sc__law_fits.nd rfl (Or.inl rfl) (pe_bm PySem.F.plainAttrs_str PySem.F.slot_str_split PySem.F.type_str_split mt_splitG (pv 0) (pa_cons pe_str pa_nil)))
        (pss_cons (ps_set (i := 2) sc__law_fits.nd rfl (Or.inl rfl) (pe_lst (pa_cons pe_int (pa_cons pe_int (pa_cons pe_int (pa_cons pe_int (pa_cons pe_int (pa_cons pe_int (pa_cons pe_int (pa_cons pe_int (pa_cons pe_int (pa_cons pe_int pa_nil))))))))))))
        (pss_cons (ps_set (i := 3) sc__law_fits.nd rfl (Or.inl rfl) (pe_lst (pa_cons pe_int (pa_cons pe_int (pa_cons pe_int (pa_cons pe_int (pa_cons pe_int (pa_cons pe_int (pa_cons pe_int (pa_cons pe_int (pa_cons pe_int (pa_cons pe_int pa_nil))))))))))))
        (pss_cons (ps_set (i := 4) sc__law_fits.nd rfl (Or.inl rfl) (pe_lst (pa_cons pe_str (pa_cons pe_str (pa_cons pe_str (pa_cons pe_str (pa_cons pe_str (pa_cons pe_str (pa_cons pe_str (pa_cons pe_str (pa_cons pe_str (pa_cons pe_str pa_nil))))))))))))
        (pss_cons (ps_if (PW.pt (pw_or (pt_cmpR (op_ninK (K := K) rfl) (pe_ix (ix_seqK (K := K) rfl) (pv 1) pe_int (fun _ _ => rfl)) (pv 4) (by rfl)) (pw_or1 (pt_cmpR (op_neK (K := K) rfl hr.units) (pe_callB (call_lenK (K := K) rfl) (by rfl) (T.free 50) PySem.boot_len (pa_cons (pv 1) pa_nil)) (pe_ix (ix_seqK (K := K) rfl) (pv 3) (pe_bm PySem.F.plainAttrs_list PySem.F.slot_list_index PySem.F.type_list_index (mt_indexK (K := K) rfl) (pv 4) (pa_cons (pe_ix (ix_seqK (K := K) rfl) (pv 1) pe_int (fun _ _ => rfl)) pa_nil)) (fun _ _ => rfl)) (nomark _))))) (pss_one (ps_ret pe_bl)) pss_nil)
        (pss_cons (ps_set (i := 5) sc__law_fits.nd rfl (Or.inl rfl) (pe_slice (sl_listK (K := K) rfl) (pv 1) (po_some pe_int) po_none))
        (pss_cut (ps_if (pt_cmpR (op_eqK (K := K) rfl hr.units) (pe_ix (ix_seqK (K := K) rfl) (pv 1) pe_int (fun _ _ => rfl)) pe_str (nomark _)) (pss_one (ps_set (i := 5) sc__law_fits.nd rfl (Or.inl rfl) (pe_lst (pa_cons (pe_ix (ix_seqK (K := K) rfl) (pv 1) pe_int (fun _ _ => rfl)) (pa_cons (pe_ix (ix_seqK (K := K) rfl) (pv 1) pe_int (fun _ _ => rfl)) (pa_cons (pe_ix (ix_seqK (K := K) rfl) (pv 1) pe_int (fun _ _ => rfl)) pa_nil)))))) pss_nil)
        (pss_cons (ps_set (i := 6) sc__law_fits.nd rfl (Or.inl rfl) (pe_ix (ix_seqK (K := K) rfl) (pv 2) (pe_bm PySem.F.plainAttrs_list PySem.F.slot_list_index PySem.F.type_list_index (mt_indexK (K := K) rfl) (pv 4) (pa_cons (pe_ix (ix_seqK (K := K) rfl) (pv 1) pe_int (fun _ _ => rfl)) pa_nil)) (fun _ _ => rfl)))
        (pss_cons (ps_if (pt_cmpR (op_neK (K := K) rfl hr.units) (pe_lc (own := [("_law_word", 7)]) (g := gName 7) rfl sc__law_fits.nd (pi_listK (K := K) rfl (pe_slice (sl_listK (K := K) rfl) (pv 5) po_none (po_some (pv 6)))) (blkOk_by (own := [("_law_word", 7)]) (N := ["_law_line", "_law_words", "_law_names_here", "_law_sizes", "_law_own", "_law_rest", "_law_many", "_law_word"]) (sc := defScope s__law_fits) (by decide +kernel)) (fun _ _ _ _ _ => (pg_name (i := 7) sc__law_fits.nd rfl (Or.inl rfl))) (fun _ _ _ _ _ => pts_one (pt_not (pt_val (pe_fn takes0 c__law_is_name (hr.mono (by decide)) (by rfl) (pa_cons (pv 7) pa_nil))))) (fun _ _ _ _ _ => (pv 7))) (pe_lst pa_nil) (nomark _)) (pss_one (ps_ret pe_bl)) pss_nil)
        (pss_cons (ps_if (pt_cmpR (op_neK (K := K) rfl hr.units) (pe_lc (own := [("_law_word", 7)]) (g := gName 7) rfl sc__law_fits.nd (pi_listK (K := K) rfl (pe_slice (sl_listK (K := K) rfl) (pv 5) (po_some (pv 6)) po_none)) (blkOk_by (own := [("_law_word", 7)]) (N := ["_law_line", "_law_words", "_law_names_here", "_law_sizes", "_law_own", "_law_rest", "_law_many", "_law_word"]) (sc := defScope s__law_fits) (by decide +kernel)) (fun _ _ _ _ _ => (pg_name (i := 7) sc__law_fits.nd rfl (Or.inl rfl))) (fun _ _ _ _ _ => pts_one (pt_not (pt_val (pe_fn takes0 c__law_is_number (hr.mono (by decide)) (by rfl) (pa_cons (pv 7) pa_nil))))) (fun _ _ _ _ _ => (pv 7))) (pe_lst pa_nil) (nomark _)) (pss_one (ps_ret pe_bl)) pss_nil)
        (pss_one (ps_ret (pe_or (pe_cmpR (op_neK (K := K) rfl hr.units) (pe_ix (ix_seqK (K := K) rfl) (pv 1) pe_int (fun _ _ => rfl)) pe_str (nomark _)) (pe_one (pe_cmpR (op_inK (K := K) rfl) (pe_ix (ix_seqK (K := K) rfl) (pv 1) pe_int (fun _ _ => rfl)) (pe_lst (pa_cons pe_str (pa_cons pe_str (pa_cons pe_str (pa_cons pe_str (pa_cons pe_str (pa_cons pe_str (pa_cons pe_str (pa_cons pe_str (pa_cons pe_str (pa_cons pe_str pa_nil))))))))))) (by rfl)))))))))))))))), ?rd⟩)
  case len => obtain ⟨_, rfl, _⟩ := h; rfl
  case rd =>
    obtain ⟨l, rfl, hl, ha, q⟩ := h
    have sz : 10000000 ≤ sizeLine := by rw [sizeLine_eq]; omega
    walk_at "wt"
    refine ⟨rfl, ?_⟩
    rw [blank_lit]
    refine r_split (by decide) (by omega) fun p np => ?_
    have hp : upd H p (.lst (SgL (TL.spl [32] 0 [] l))) p = some (.lst (SgL (TL.spl [32] 0 [] l))) := upd_same
    have s1 := same_new (o := .lst (SgL (TL.spl [32] 0 [] l))) np
    generalize upd H p (.lst (SgL (TL.spl [32] 0 [] l))) = H1 at hp s1 ⊢
    have lsp := spl_le (s := 32) (l := l) (acc := [])
    unfold stmL at q
    obtain ⟨w0, r, er⟩ : ∃ w r, TL.spl [32] 0 [] l = w :: r := by
      cases e : TL.spl [32] 0 [] l with
      | nil => exact absurd e spl_ne
      | cons w r => exact ⟨w, r, rfl⟩
    rw [er] at hp q lsp
    dsimp only at q
    refine ⟨by omega, fun n1 nn1 => ⟨by omega, fun n2 nn2 => ⟨by omega, fun n3 nn3 => ?_⟩⟩⟩
    obtain ⟨z1, z2, z3, z4, z5, z6, z7, z8, z9, z10⟩ := lits
    let I : Nat → V := fun n => .int (n : Int)
    have sA := same_new (o := .lst [.int 1, .int 1, .int 2, .int 1, .int 2, .int 2, .int 1, .int 0, .int 1, .int 0]) nn1
    have sB := same_new (o := .lst [.int 3, .int 3, .int 3, .int 2, .int 4, .int 4, .int 2, .int 2, .int 2, .int 1]) nn2
    have sC := same_new (o := .lst [.str "make", .str "keep", .str "copy", .str "drop", .str "get", .str "set", .str "tell", .str "again", .str "if", .str "end"]) nn3
    have hn1 : upd (upd (upd H1 n1 (.lst [.int 1, .int 1, .int 2, .int 1, .int 2, .int 2, .int 1, .int 0, .int 1, .int 0])) n2 (.lst [.int 3, .int 3, .int 3, .int 2, .int 4, .int 4, .int 2, .int 2, .int 2, .int 1])) n3 (.lst [.str "make", .str "keep", .str "copy", .str "drop", .str "get", .str "set", .str "tell", .str "again", .str "if", .str "end"]) n1 = some (.lst (ZN.map I)) := sC _ _ (sB _ _ upd_same)
    have hn2 : upd (upd (upd H1 n1 (.lst [.int 1, .int 1, .int 2, .int 1, .int 2, .int 2, .int 1, .int 0, .int 1, .int 0])) n2 (.lst [.int 3, .int 3, .int 3, .int 2, .int 4, .int 4, .int 2, .int 2, .int 2, .int 1])) n3 (.lst [.str "make", .str "keep", .str "copy", .str "drop", .str "get", .str "set", .str "tell", .str "again", .str "if", .str "end"]) n2 = some (.lst (ZS.map I)) := sC _ _ upd_same
    have hn3 : upd (upd (upd H1 n1 (.lst [.int 1, .int 1, .int 2, .int 1, .int 2, .int 2, .int 1, .int 0, .int 1, .int 0])) n2 (.lst [.int 3, .int 3, .int 3, .int 2, .int 4, .int 4, .int 2, .int 2, .int 2, .int 1])) n3 (.lst [.str "make", .str "keep", .str "copy", .str "drop", .str "get", .str "set", .str "tell", .str "again", .str "if", .str "end"]) n3 = some (.lst (SgL W10)) := by
      rw [z1, z2, z3, z4, z5, z6, z7, z8, z9, z10]
      exact upd_same
    have s4 := (sA.trans sB).trans sC
    generalize upd (upd (upd H1 n1 (.lst [.int 1, .int 1, .int 2, .int 1, .int 2, .int 2, .int 1, .int 0, .int 1, .int 0])) n2 (.lst [.int 3, .int 3, .int 3, .int 2, .int 4, .int 4, .int 2, .int 2, .int 2, .int 1])) n3 (.lst [.str "make", .str "keep", .str "copy", .str "drop", .str "get", .str "set", .str "tell", .str "again", .str "if", .str "end"]) = H4 at hn1 hn2 hn3 s4 ⊢
    have s04 := s1.trans s4
    have hp4 := s4 _ _ hp
    refine r_ixL (i := 0) hp4 rfl ?_
    refine r_ninL (.of hn3) rfl SgL_flat ?_
    rw [inV_S]
    refine ⟨_, rfl, ?_⟩
    by_cases m : w0 ∈ W10
    · rw [decide_eq_true m, if_neg (show ¬ (!true) = true from Bool.false_ne_true)]
      have kl := List.idxOf_lt_length_of_mem m
      obtain ⟨k, ek⟩ : ∃ k, k = W10.idxOf w0 := ⟨_, rfl⟩
      have hk : W10[k]? = some w0 := by
        rw [ek, List.getElem?_eq_getElem kl]
        exact congrArg some (List.getElem_idxOf kl)
      have kl : k < 10 := by rw [ek]; exact kl
      have ix : ∀ (Q' : VK) (H5 : Hp), H5 n3 = some (.lst (SgL W10)) → Q' (.int (k : Int)) H5 → rIndex K (.ref n3) [.str (Sg w0)] H5 Q' := fun Q' H5 h5 q' => by
        refine ⟨n3, SgL W10, .str (Sg w0), k, .str (Sg w0), rfl, rfl, .of h5, rfl, SgL_flat, SgL_at hk, by simp [eqV], fun j z' hj hz => ?_, q'⟩
        obtain ⟨y, ey, rfl⟩ := SgL_mem hz
        have : y ≠ w0 := fun z => by
          rw [z] at ey
          rw [ek] at hj
          exact idx_first hj ey rfl
        simp [eqV, Sg_inj, this]
      refine r_lenL hp4 ?_
      rw [SgL_len]
      refine ⟨.inl ⟨rfl, _, .of hn3⟩, r_ixL (i := 0) hp4 rfl (ix _ _ hn3 ?_)⟩
      obtain ⟨nk, enk⟩ : ∃ nk, ZN[k]? = some nk := ⟨_, List.getElem?_eq_getElem kl⟩
      obtain ⟨sk, esk⟩ : ∃ sk, ZS[k]? = some sk := ⟨_, List.getElem?_eq_getElem kl⟩
      refine r_ixL (i := k) hn2 (by rw [List.getElem?_map, esk]; rfl) ?_
      show gNe K (.int ((r.length + 1 : Nat) : Int)) (.int (sk : Int)) _ _
      obtain ⟨s, es, els⟩ := shp_size hk
      rw [List.getD_eq_getElem?_getD, esk, Option.getD_some] at els
      walk_at "wt"
      by_cases cz : r.length ≠ s.length
      · rw [if_pos (by omega)]
        rw [es] at q
        dsimp only at q
        rw [readsL_bad cz] at q
        exact q _ s04
      have cz : r.length = s.length := Decidable.not_not.mp cz
      rw [if_neg (fun z => z (by omega))]
      obtain ⟨s', es', fi⟩ := fits_iff (r := r) hk (by rw [List.getD_eq_getElem?_getD, esk, Option.getD_some]; omega)
      rw [es] at es'
      cases es'
      rw [es] at q
      dsimp only at q
      refine ⟨p, _, rfl, .of hp4, fun p5 np5 => ?_⟩
      rw [cutV_one, show (SgL (w0 :: r)).drop 1 = SgL r from rfl]
      have s5 := same_new (o := .lst (SgL r)) np5
      have hp5 : upd H4 p5 (.lst (SgL r)) p5 = some (.lst (SgL r)) := upd_same
      have hq5 := s5 _ _ hp4
      have hm1 := s5 _ _ hn1
      have hm3 := s5 _ _ hn3
      have s05 := s04.trans s5
      generalize upd H4 p5 (.lst (SgL r)) = H5 at hp5 hq5 hm1 hm3 s05 ⊢
      refine ⟨fun σ' H6 => ∃ q6, σ' = [some (.str (Sg l)), some (.ref p), some (.ref n1), some (.ref n2), some (.ref n3), some (.ref q6), none, none] ∧ Same H5 H6 ∧ H6 q6 = some (.lst (SgL (restW w0 r))), ?_, ?_⟩
      · refine r_ixL (i := 0) hq5 rfl ?_
        walk_at "wt"
        by_cases cs : w0 = wSet
        · rw [if_pos (show Sg w0 = ("set" : Str) from by rw [cs]; exact z6.symm)]
          have rl : r.length = 3 := by
            rw [cs, show shpL wSet = some [110, 99, 110] from by decide] at es
            cases es
            exact cz
          obtain ⟨x, y, z, er3⟩ : ∃ x y z, r = [x, y, z] := by
            match r, rl with
            | [x, y, z], _ => exact ⟨x, y, z, rfl⟩
          subst er3
          refine r_ixL (i := 1) hq5 rfl (r_ixL (i := 3) hq5 rfl (r_ixL (i := 2) hq5 rfl ⟨by omega, fun p6 np6 => ⟨p6, rfl, same_new np6, ?_⟩⟩))
          rw [upd_same]
          unfold restW
          rw [if_pos cs]
          rfl
        · rw [if_neg (show ¬ Sg w0 = ("set" : Str) from fun z => cs (Sg_inj.mp (z.trans z6)))]
          exact ⟨p5, rfl, Same.refl _, by unfold restW; rw [if_neg cs]; exact hp5⟩
      rintro σ' H6 ⟨q6, rfl, s6, hq6⟩
      have s06 := s05.trans s6
      have hp6 := s6 _ _ hq5
      have hm6 := s6 _ _ hm1
      have rl : (restW w0 r).length ≤ 3 := by
        unfold restW
        have := (shp_le es).1
        split
        · exact Nat.le_refl _
        · omega
      have rok : ∀ x ∈ restW w0 r, x.length ≤ 100000 ∧ ∀ c ∈ x, c < 128 := fun x mx => by
        have : x ∈ r ∨ x = [] := by
          unfold restW at mx
          split at mx
          · have gd : ∀ i, r.getD i [] ∈ r ∨ r.getD i [] = [] := fun i => by
              rw [List.getD_eq_getElem?_getD]
              cases e : r[i]? with
              | none => exact .inr rfl
              | some y => exact .inl (List.mem_of_getElem? e)
            simp only [List.mem_cons, List.not_mem_nil, or_false] at mx
            rcases mx with rfl | rfl | rfl
            · exact gd 0
            · exact gd 2
            · exact gd 1
          · exact .inl mx
        rcases this with mr | rfl
        · have l1 := lsp.2 x (List.mem_cons_of_mem _ mr)
          rw [List.length_nil] at l1
          refine ⟨by omega, fun c mc => ha c (spl_sub (List.not_mem_nil (a := c)) x (by rw [er]; exact List.mem_cons_of_mem _ mr) mc)⟩
        · exact ⟨Nat.zero_le _, fun c mc => (List.not_mem_nil mc).elim⟩
      walk_at "wt"
      refine ⟨.inl ⟨rfl, _, .of (s6 _ _ hm3)⟩, r_ixL (i := 0) hp6 rfl (ix _ _ (s6 _ _ hm3) ?_)⟩
      refine r_ixL (i := k) hm6 (by rw [List.getElem?_map, enk]; rfl) ?_
      refine ⟨(nk : Int), rfl, ?_⟩
      refine ⟨q6, _, rfl, .of hq6, fun p7 np7 => ?_⟩
      rw [cutV_toL, show (SgL (restW w0 r)).take nk = SgL ((restW w0 r).take nk) from List.map_take.symm]
      have s7 := same_new (o := .lst (SgL ((restW w0 r).take nk))) np7
      have hp7 : upd H6 p7 (.lst (SgL ((restW w0 r).take nk))) p7 = some (.lst (SgL ((restW w0 r).take nk))) := upd_same
      have s07 := s06.trans s7
      have hq7 := s7 _ _ hq6
      have hpp7 := s7 _ _ hp6
      have hm7 := s7 _ _ hm6
      have hm7' := s7 _ _ (s6 _ _ hm3)
      generalize upd H6 p7 (.lst (SgL ((restW w0 r).take nk))) = H7 at hp7 s07 hq7 hpp7 hm7 hm7' ⊢
      refine ⟨p7, rfl, ⟨_, .of hp7⟩, fun D nD => lc_list (xs := SgL ((restW w0 r).take nk)) (fun j Hx => Same H7 Hx ∧ Hx D = some (.lst (SgL ((((restW w0 r).take nk).take j).filter fun x => !isNm x)))) ⟨same_new nD, upd_same⟩ (fun j Hx _ e => .of (e.1 _ _ hp7)) (fun j x Hx hx e => ?_) fun Hx e => ?_⟩
      · obtain ⟨sx, hD⟩ := e
        obtain ⟨x, ex, rfl⟩ := SgL_mem hx
        have ok := rok x (List.mem_of_mem_take (List.mem_of_getElem? ex))
        rw [filtW_snoc ex]
        walk_at "wt"
        refine ⟨x, rfl, by omega, ok.2, fun H8 s8 => ?_⟩
        refine ⟨_, rfl, ?_⟩
        have hD8 := s8 _ _ hD
        cases en : isNm x with
        | true =>
          rw [if_neg (fun z => by cases z), if_neg (show ¬ (true = false) from fun z => by cases z), List.append_nil]
          exact ⟨sx.trans s8, hD8⟩
        | false =>
          rw [if_pos rfl, if_pos (show false = false from rfl)]
          refine ⟨_, hD8, by rw [SgL_len]; refine Nat.lt_of_le_of_lt (List.length_filter_le _ _) ?_; rw [List.length_take, List.length_take]; omega, fun b x g => (upd_ne (ne_of_none g nD)).trans (s8 _ _ (sx _ _ g)), ?_⟩
          rw [upd_same]
          unfold SgL
          rw [List.map_append]
          rfl
      obtain ⟨sx, hD⟩ := e
      rw [SgL_len, List.take_length] at hD
      have q' : ∀ H' b, b = (readsL s r).isSome → Same H H' → Q (.bl b) H' := fun H' b e s' => by
        have := q H' s'
        rw [Option.isSome_map] at this
        rw [e]
        exact this
      have enk' : ZN.getD k 0 = nk := by rw [List.getD_eq_getElem?_getD, enk, Option.getD_some]
      rw [enk'] at fi
      have hq8 := sx _ _ hq7
      have hpp8 := sx _ _ hpp7
      have hm8 := sx _ _ hm7
      have hm8' := sx _ _ hm7'
      have s08 := s07.trans sx
      clear s7 hp7 hq7 hpp7
      refine ⟨by omega, fun e0 ne0 => ?_⟩
      have s3 := same_new (o := .lst []) ne0
      refine r_neNilS (s3 _ _ hD) upd_same (fun x mx => (rok x (List.mem_of_mem_take (List.mem_filter.mp mx).1)).2) ?_
      have hq9 := s3 _ _ hq8
      have hpp9 := s3 _ _ hpp8
      have hm9 := s3 _ _ hm8
      have hm9' := s3 _ _ hm8'
      have s09 := s08.trans s3
      generalize upd Hx e0 (.lst []) = H9 at hq9 hpp9 hm9 hm9' s09 ⊢
      refine ⟨_, rfl, ?_⟩
      by_cases g1 : (((restW w0 r).take nk).filter fun x => !isNm x) = []
      case neg =>
        rw [decide_eq_false g1, if_pos (show (!false) = true from rfl)]
        refine q' _ _ (Eq.symm (Bool.eq_false_iff.mpr fun z => g1 (List.filter_eq_nil_iff.mpr fun x m => ?_))) s09
        rw [(fi.mp z).1 x m]
        exact Bool.false_ne_true
      rw [decide_eq_true g1, if_neg (show ¬ (!true) = true from Bool.false_ne_true)]
      have f1 : ∀ x ∈ (restW w0 r).take nk, isNm x = true := fun x m => by
        have := List.filter_eq_nil_iff.mp g1 x m
        cases e : isNm x with
        | true => rfl
        | false => rw [e] at this; exact absurd rfl this
      walk_at "wt"
      refine ⟨_, rfl, ?_⟩
      refine ⟨q6, _, rfl, .of hq9, fun p7 np7 => ?_⟩
      rw [cutV_fromL, show (SgL (restW w0 r)).drop nk = SgL ((restW w0 r).drop nk) from List.map_drop.symm]
      have s7 := same_new (o := .lst (SgL ((restW w0 r).drop nk))) np7
      have hp7 : upd H9 p7 (.lst (SgL ((restW w0 r).drop nk))) p7 = some (.lst (SgL ((restW w0 r).drop nk))) := upd_same
      have s10 := s09.trans s7
      have hpp10 := s7 _ _ hpp9
      generalize upd H9 p7 (.lst (SgL ((restW w0 r).drop nk))) = H10 at hp7 s10 hpp10 ⊢
      refine ⟨p7, rfl, ⟨_, .of hp7⟩, fun D nD => lc_list (xs := SgL ((restW w0 r).drop nk)) (fun j Hx => Same H10 Hx ∧ Hx D = some (.lst (SgL ((((restW w0 r).drop nk).take j).filter fun x => !(numP x).isSome)))) ⟨same_new nD, upd_same⟩ (fun j Hx _ e => .of (e.1 _ _ hp7)) (fun j x Hx hx e => ?_) fun Hx e => ?_⟩
      · obtain ⟨sx, hD⟩ := e
        obtain ⟨x, ex, rfl⟩ := SgL_mem hx
        have ok := rok x (List.mem_of_mem_drop (List.mem_of_getElem? ex))
        rw [filtW_snoc ex]
        walk_at "wt"
        refine ⟨x, rfl, by omega, ok.2, fun H8 s8 => ?_⟩
        refine ⟨_, rfl, ?_⟩
        have hD8 := s8 _ _ hD
        cases en : (numP x).isSome with
        | true =>
          rw [if_neg (fun z => by cases z), if_neg (show ¬ (true = false) from fun z => by cases z), List.append_nil]
          exact ⟨sx.trans s8, hD8⟩
        | false =>
          rw [if_pos rfl, if_pos (show false = false from rfl)]
          refine ⟨_, hD8, by rw [SgL_len]; refine Nat.lt_of_le_of_lt (List.length_filter_le _ _) ?_; rw [List.length_take, List.length_drop]; omega, fun b x g => (upd_ne (ne_of_none g nD)).trans (s8 _ _ (sx _ _ g)), ?_⟩
          rw [upd_same]
          unfold SgL
          rw [List.map_append]
          rfl
      obtain ⟨sx, hD⟩ := e
      rw [SgL_len, List.take_length] at hD
      have hpp11 := sx _ _ hpp10
      have s11 := s10.trans sx
      refine ⟨by omega, fun e0 ne0 => ?_⟩
      have s3 := same_new (o := .lst []) ne0
      refine r_neNilS (s3 _ _ hD) upd_same (fun x mx => (rok x (List.mem_of_mem_drop (List.mem_filter.mp mx).1)).2) ?_
      have hpp12 := s3 _ _ hpp11
      have s12 := s11.trans s3
      generalize upd Hx e0 (.lst []) = H12 at hpp12 s12 ⊢
      refine ⟨_, rfl, ?_⟩
      by_cases g2 : (((restW w0 r).drop nk).filter fun x => !(numP x).isSome) = []
      case neg =>
        rw [decide_eq_false g2, if_pos (show (!false) = true from rfl)]
        refine q' _ _ (Eq.symm (Bool.eq_false_iff.mpr fun z => g2 (List.filter_eq_nil_iff.mpr fun x m => ?_))) s12
        rw [(fi.mp z).2.1 x m]
        exact Bool.false_ne_true
      rw [decide_eq_true g2, if_neg (show ¬ (!true) = true from Bool.false_ne_true)]
      have f2 : ∀ x ∈ (restW w0 r).drop nk, (numP x).isSome = true := fun x m => by
        have := List.filter_eq_nil_iff.mp g2 x m
        cases e : (numP x).isSome with
        | true => rfl
        | false => rw [e] at this; exact absurd rfl this
      walk_at "wt"
      refine r_ixL (i := 0) hpp12 rfl ?_
      walk_at "wt"
      rw [z8]
      simp only [Sg_inj]
      by_cases ca : w0 = wAgain
      · rw [if_neg (fun z => z ca)]
        have rl : r.length = 1 := by
          rw [ca, show shpL wAgain = some [116] from by decide] at es
          cases es
          exact cz
        obtain ⟨x, ex⟩ := List.length_eq_one_iff.mp rl
        subst ex
        refine r_ixL (i := 1) hpp12 rfl ⟨by omega, fun p8 np8 => ?_⟩
        have s13 := s12.trans (same_new (o := .lst [.str "0", .str "1", .str "2", .str "3", .str "4", .str "5", .str "6", .str "7", .str "8", .str "9"]) np8)
        refine r_inL (xs := SgL digW) (.of (by rw [show SgL digW = [.str "0", .str "1", .str "2", .str "3", .str "4", .str "5", .str "6", .str "7", .str "8", .str "9"] from dig_lits]; exact upd_same)) rfl SgL_flat ?_
        rw [inV_S]
        refine q' _ _ ?_ s13
        have e : (readsL s [x]).isSome = true ↔ x ∈ digW := by
          rw [fi]
          exact ⟨fun z => z.2.2 ca, fun z => ⟨f1, f2, fun _ => z⟩⟩
        cases e2 : (readsL s [x]).isSome with
        | true => exact decide_eq_true (e.mp e2)
        | false => exact decide_eq_false fun z => by rw [e.mpr z] at e2; cases e2
      · rw [if_pos ca]
        exact q' _ _ (Eq.symm (fi.mpr ⟨f1, f2, fun z => absurd z ca⟩)) s12
    · rw [decide_eq_false m, if_pos (show (!false) = true from rfl)]
      rw [shp_none.mpr m] at q
      exact q _ s04
theorem f__law_names (T : Tx K mg) : Fn P w K mg base 2 "_law_names" ["_law_lines_here"] (sp_lawN K) := by
  have c__law_is_number := f__law_is_number (P := P) (w := w) (base := base) T
  refine T.mkFn 23 37 (d := d__law_names) (N := ["_law_lines_here", "_law_found", "_law_line", "_law_words", "_law_k"]) (k := 1) rfl rfl rfl rfl rfl sc__law_names (fun _ _ _ _ _ _ us hl => match us, hl with | [_], _ => rfl) (fun vs H Q E h => ?len) (fun cdv A outer s H vs Q E hr h => ⟨_,
      (pss_cons (ps_set (i := 1) sc__law_names.nd rfl (Or.inl rfl) (pe_lst pa_nil))
        (pss_cons (ps_for (passes_of rfl) rfl (pi_listK (K := K) rfl (pv 0)) (pg_name (i := 2) sc__law_names.nd rfl (Or.inl rfl)) (pss_cons (ps_set (i := 3) sc__law_names.nd rfl (Or.inl rfl) (pe_bm PySem.F.plainAttrs_str PySem.F.slot_str_split PySem.F.type_str_split mt_splitG (pv 2) (pa_cons pe_str pa_nil)))
        (pss_one (ps_for (passes_of rfl) rfl (pi_range2 rfl (T.free 51) (pa_cons pe_int (pa_cons (pe_callB (call_lenK (K := K) rfl) (by rfl) (T.free 50) PySem.boot_len (pa_cons (pv 3) pa_nil)) pa_nil))) (pg_name (i := 4) sc__law_names.nd rfl (Or.inl rfl)) (pss_one (ps_if (PW.pt (pw_and (pt_not (pt_val (pe_fn (takes_of rfl rfl rfl rfl) c__law_is_number (hr.mono (by decide)) (by rfl) (pa_cons (pe_ix (ix_seqK (K := K) rfl) (pv 3) (pv 4) (fun _ _ => rfl)) pa_nil)))) (pw_and1 (pt_cmpR (op_ninK (K := K) rfl) (pe_ix (ix_seqK (K := K) rfl) (pv 3) (pv 4) (fun _ _ => rfl)) (pv 1) (by rfl))))) (pss_one (ps_expr (pe_bm PySem.F.plainAttrs_list PySem.F.slot_list_append PySem.F.type_list_append mt_append (pv 1) (pa_cons (pe_ix (ix_seqK (K := K) rfl) (pv 3) (pv 4) (fun _ _ => rfl)) pa_nil)))) pss_nil))))))
        (pss_one (ps_ret (pv 1))))), ?rd⟩)
  case len => obtain ⟨_, _, rfl, _⟩ := h; rfl
  case rd =>
    obtain ⟨a, ls, rfl, ha, hl, hc, q⟩ := h
    have sz : 16000000 ≤ sizeLine := by rw [sizeLine_eq]; omega
    walk_at "wt"
    refine ⟨by omega, fun f nf => ?_⟩
    have s1 := same_new (o := .lst []) nf
    have hf : upd H f (.lst []) f = some (.lst []) := upd_same
    have haa := s1 _ _ ha
    generalize upd H f (.lst []) = H1 at s1 hf haa ⊢
    have naf : a ≠ f := ne_of_none ha nf
    refine ⟨⟨_, .of haa⟩, forW_list (xs := SgL ls) (fun i σ H' => ∃ o2 o3 o4, σ = [some (.ref a), some (.ref f), o2, o3, o4] ∧ H' f = some (.lst (SgL (dd (lawN (ls.take i))))) ∧ ∀ b x, b ≠ f → H1 b = some x → H' b = some x) ⟨_, _, _, rfl, hf, fun b x _ g => g⟩ ?_ ?_ ?_⟩
    · rintro i σ H' hi ⟨o2, o3, o4, rfl, hF, k⟩
      exact .of (k _ _ naf haa)
    · rintro i x σ H' hx ⟨o2, o3, o4, rfl, hF, k⟩
      obtain ⟨l, el, rfl⟩ := SgL_mem hx
      have ml := List.mem_of_getElem? el
      have hl1 := (hc l ml).1
      have hl2 := (hc l ml).2
      have il := (List.getElem?_eq_some_iff.mp el).1
      walk_at "wt"
      refine ⟨rfl, ?_⟩
      rw [blank_lit]
      refine r_split (by decide) (by omega) fun p np => ?_
      obtain ⟨le1, le2⟩ := spl_le (s := 32) (l := l) (acc := [])
      have hsig : ∀ z ∈ TL.spl [32] 0 [] l, ∀ c ∈ z, c < 128 := fun z mz c mc => hl2 c (spl_sub (List.not_mem_nil (a := c)) z mz mc)
      have hp : upd H' p (.lst (SgL (TL.spl [32] 0 [] l))) p = some (.lst (SgL (TL.spl [32] 0 [] l))) := upd_same
      have sp := same_new (o := .lst (SgL (TL.spl [32] 0 [] l))) np
      have hF2 := sp _ _ hF
      have pf : p ≠ f := (ne_of_none hF np).symm
      have ne := spl_ne (s := 32) (l := l) (acc := [])
      have e0 : lawN (ls.take (i + 1)) = lawN (ls.take i) ++ ((TL.spl [32] 0 [] l).drop 1).filter fun p => (numP p).isNone := by
        unfold lawN
        rw [List.take_add_one, el, List.flatMap_append]
        show _ ++ (_ ++ []) = _
        rw [List.append_nil]
      generalize TL.spl [32] 0 [] l = ps at hp sp hF2 ne e0 le1 le2 hsig ⊢
      generalize upd H' p (.lst (SgL ps)) = H2 at hp sp hF2 ⊢
      refine r_lenL hp ?_
      rw [SgL_len]
      have lp : ps.length ≠ 0 := fun z => ne (List.eq_nil_of_length_eq_zero z)
      refine ⟨1, _, rfl, by omega, ?_⟩
      refine forW_range (lo := 1) (fun j σ H3 => ∃ o4, σ = [some (.ref a), some (.ref f), some (.str (Sg l)), some (.ref p), o4] ∧ H3 f = some (.lst (SgL (dd (lawN (ls.take i) ++ ((ps.drop 1).take j).filter fun p => (numP p).isNone)))) ∧ ∀ b x, b ≠ f → H2 b = some x → H3 b = some x) ⟨_, rfl, ?_, fun b x _ g => g⟩ ?_ ?_
      · rw [List.take_zero, List.filter_nil, List.append_nil]
        exact hF2
      · rintro j σ H3 hj ⟨o4, rfl, hF3, k3⟩
        obtain ⟨z, ez⟩ : ∃ z, ps[j + 1]? = some z := ⟨_, List.getElem?_eq_getElem (by omega)⟩
        have ed : (ps.drop 1)[j]? = some z := by
          rw [List.getElem?_drop, Nat.add_comm]
          exact ez
        have mz := List.mem_of_getElem? ez
        have lz := le2 z mz
        rw [List.length_nil] at lz
        have hp3 := k3 _ _ pf hp
        walk_at "wt"
        rw [show (1 : Int) + (j : Int) = ((j + 1 : Nat) : Int) from by omega]
        refine r_ixL (i := j + 1) hp3 (SgL_at ez) ?_
        refine ⟨z, rfl, by omega, hsig z mz, fun H4 s4 => ?_⟩
        dsimp only
        refine ⟨_, rfl, ?_⟩
        have hF4 := s4 _ _ hF3
        have hp4 := s4 _ _ hp3
        have k4 : ∀ b x, b ≠ f → H2 b = some x → H4 b = some x := fun b x n g => s4 _ _ (k3 b x n g)
        have et : ((ps.drop 1).take (j + 1)).filter (fun p => (numP p).isNone) = ((ps.drop 1).take j).filter (fun p => (numP p).isNone) ++ if (numP z).isNone = true then [z] else [] := by
          rw [List.take_add_one, ed, List.filter_append]
          congr 1
          show List.filter _ [z] = _
          rw [List.filter_cons]
          rfl
        rw [et]
        cases en : numP z with
        | some n =>
          rw [if_neg (show ¬ (some n).isSome = false from fun z => by cases z), if_neg (show ¬ (some n).isNone = true from fun z => by cases z), List.append_nil]
          exact ⟨_, rfl, hF4, k4⟩
        | none =>
          rw [if_pos (show (none : Option Int).isSome = false from rfl), if_pos (show (none : Option Int).isNone = true from rfl), ← List.append_assoc, dd_snoc]
          refine r_ixL (i := j + 1) hp4 (SgL_at ez) ?_
          refine r_ninL (.of hF4) rfl SgL_flat ?_
          rw [inV_S]
          refine ⟨_, rfl, ?_⟩
          by_cases cz : z ∈ dd (lawN (ls.take i) ++ ((ps.drop 1).take j).filter fun p => (numP p).isNone)
          · rw [decide_eq_true cz, if_neg (show ¬ (!true) = true from Bool.false_ne_true), if_pos cz]
            exact ⟨_, rfl, hF4, k4⟩
          · rw [decide_eq_false cz, if_pos (show (!false) = true from rfl), if_neg cz]
            refine ⟨.inl ⟨rfl, _, .of hF4⟩, r_ixL (i := j + 1) hp4 (SgL_at ez) ?_⟩
            refine ⟨f, _, _, rfl, rfl, hF4, ?_, _, rfl, ?_, fun b x n g => (upd_ne n).trans (k4 b x n g)⟩
            · rw [SgL_len]
              have h1 := dd_len (ks := lawN (ls.take i) ++ ((ps.drop 1).take j).filter fun p => (numP p).isNone)
              have h2 := lawN_len (B := 10000) (ls := ls.take i) fun l m => (hc l (List.mem_of_mem_take m)).1
              have h3 := List.length_filter_le (fun p : Ln => (numP p).isNone) ((ps.drop 1).take j)
              have h4 : ((ps.drop 1).take j).length ≤ ps.length := by
                rw [List.length_take, List.length_drop]
                omega
              have h5 : (ls.take i).length ≤ 1000 := by
                rw [List.length_take]
                omega
              have h6 := Nat.mul_le_mul_right (10000 + 1) h5
              rw [List.length_append] at h1
              refine Nat.lt_of_le_of_lt (Nat.le_trans h1 (Nat.add_le_add h2 h3)) ?_
              omega
            · rw [upd_same]
              unfold SgL
              rw [List.map_append]
              rfl
      · rintro σ H3 ⟨o4, rfl, hF3, k3⟩
        refine ⟨_, _, _, rfl, ?_, fun b x n g => k3 b x n (sp _ _ (k b x n g))⟩
        rw [hF3, e0, List.take_of_length_le (l := ps.drop 1) (by rw [List.length_drop]; omega)]
    · rintro σ H' ⟨o2, o3, o4, rfl, hF, k⟩
      rw [SgL_len, List.take_length] at hF
      walk_at "wt"
      exact q f H' nf (fun b x g => k _ _ (ne_of_none g nf) (s1 _ _ g)) hF
theorem f__law_good (T : Tx K mg) : Fn P w K mg base 3 "_law_good" ["_law_lines_here"] (sp_good K) := by
  have c__law_fits := f__law_fits (P := P) (w := w) (base := base) T
  have c__law_names := f__law_names (P := P) (w := w) (base := base) T
  refine T.mkFn 24 38 (d := d__law_good) (N := ["_law_lines_here", "_law_deep", "_law_line"]) (k := 2) rfl rfl rfl rfl rfl sc__law_good (fun _ _ _ _ _ _ us hl => match us, hl with | [_], _ => rfl) (fun vs H Q E h => ?len) (fun cdv A outer s H vs Q E hr h => ⟨_,
      (pss_cons (ps_set (i := 1) sc__law_good.nd rfl (Or.inl rfl) pe_int)
        (pss_cons (ps_for (passes_of rfl) rfl (pi_listK (K := K) rfl (pv 0)) (pg_name (i := 2) sc__law_good.nd rfl (Or.inl rfl)) (pss_cons (ps_if (pt_not (pt_val (pe_fn (takes_of rfl rfl rfl rfl) c__law_fits (hr.mono (by decide)) (by rfl) (pa_cons (pv 2) pa_nil)))) (pss_one (ps_ret pe_bl)) pss_nil)
        (pss_cons (ps_set (i := 1) sc__law_good.nd rfl (Or.inl rfl) (pe_op op_sub (pe_op op_gAdd (pv 1) (pe_callTy call_gInt (by rfl) (T.free 53) (by decide +kernel) (pa_cons (pe_or (pe_cmpR (op_eqK (K := K) rfl hr.units) (pe_slice sl_str (pv 2) po_none (po_some pe_int)) pe_str (nomark _)) (pe_one (pe_cmpR (op_eqK (K := K) rfl hr.units) (pe_slice sl_str (pv 2) po_none (po_some pe_int)) pe_str (nomark _)))) pa_nil))) (pe_callTy call_gInt (by rfl) (T.free 53) (by decide +kernel) (pa_cons (pe_cmpR (op_eqK (K := K) rfl hr.units) (pv 2) pe_str (nomark _)) pa_nil))))
        (pss_one (ps_if (pt_not (pt_chain op_le op_le pe_int (pv 1) pe_int)) (pss_one (ps_ret pe_bl)) pss_nil)))))
        (pss_one (ps_ret (pe_and (pe_cmpR (op_eqK (K := K) rfl hr.units) (pv 1) pe_int (nomark _)) (pe_one (pe_cmpR op_le (pe_callB (call_lenK (K := K) rfl) (by rfl) (T.free 50) PySem.boot_len (pa_cons (pe_fn (takes_of rfl rfl rfl rfl) c__law_names (hr.mono (by decide)) (by rfl) (pa_cons (pv 0) pa_nil)) pa_nil)) pe_int (nomark _)))))))), ?rd⟩)
  case len => obtain ⟨_, _, rfl, _⟩ := h; rfl
  case rd =>
    obtain ⟨a, ls, rfl, ha, hl, hc, q⟩ := h
    have sz : 16000000 ≤ sizeLine := by rw [sizeLine_eq]; omega
    have bad : ∀ H', Same H H' → ¬ goodL ls → Q (.bl false) H' := fun H' s n => by
      have := q H' s
      rw [show goodB ls = false from decide_eq_false n] at this
      exact this
    have good : ∀ H', Same H H' → goodL ls → Q (.bl true) H' := fun H' s n => by
      have := q H' s
      rw [show goodB ls = true from decide_eq_true n] at this
      exact this
    obtain ⟨t1, t2⟩ := lits3
    have t3 := lits.2.2.2.2.2.2.2.2.2
    walk_at "wt"
    refine ⟨⟨_, .of ha⟩, forW_list (xs := SgL ls) (fun i σ H' => ∃ d : Nat, ∃ o2, σ = [some (.ref a), some (.int (d : Int)), o2] ∧ Same H H' ∧ scan 0 (ls.take i) = some d ∧ d ≤ 3) ⟨0, _, rfl, Same.refl _, rfl, by omega⟩ ?_ ?_ ?_⟩
    · rintro i σ H' hi ⟨d, o2, rfl, s, -⟩
      exact .of (s _ _ ha)
    · rintro i x σ H' hx ⟨d, o2, rfl, s, sc, d3⟩
      obtain ⟨l, el, rfl⟩ := SgL_mem hx
      have ml := List.mem_of_getElem? el
      have hl1 := (hc l ml).1
      have eq1 : ls = ls.take i ++ l :: ls.drop (i + 1) := by
        have h1 := List.take_append_drop (i + 1) ls
        rw [List.take_add_one, el, List.append_assoc] at h1
        exact h1.symm
      have hsc : scan 0 ls = scan d (l :: ls.drop (i + 1)) := by
        conv => lhs; rw [eq1]
        rw [scan_app, sc]
        rfl
      have sc1 : scan 0 (ls.take (i + 1)) = scan d [l] := by
        rw [List.take_add_one, el]
        show scan 0 (ls.take i ++ [l]) = _
        rw [scan_app, sc]
        rfl
      rw [scan_cons] at hsc sc1
      walk_at "wt"
      refine ⟨l, rfl, by omega, (hc l ml).2, fun H2 s2 => ?_⟩
      dsimp only
      refine ⟨_, rfl, ?_⟩
      have s02 := s.trans s2
      cases e : stmL l with
      | none =>
        rw [e] at hsc
        rw [if_pos (show (none : Option (Ln × List V)).isSome = false from rfl)]
        exact bad _ s02 fun g => by have z := g.1; rw [hsc] at z; cases z
      | some wv =>
      obtain ⟨w, vs⟩ := wv
      rw [e] at hsc sc1
      rw [if_neg (show ¬ (some (w, vs)).isSome = false from fun z => by cases z)]
      have bp := blk_pre e
      have ei := end_is e
      have fin : ∀ (H3 : Hp) (b : Int), Same H H3 → b = (if isBl w = true then 1 else 0) → (if 0 ≤ (d : Int) + b - (if Sg l = ("end" : Str) then 1 else 0) then if ¬ (d : Int) + b - (if Sg l = ("end" : Str) then 1 else 0) ≤ 3 then Q (.bl false) H3 else ∃ (d_1 : Nat) (o2 : Option V), [some (.ref a), some (V.int ((d : Int) + b - (if Sg l = ("end" : Str) then 1 else 0))), some (V.str (Sg l))] = [some (V.ref a), some (V.int (d_1 : Int)), o2] ∧ Same H H3 ∧ scan 0 (ls.take (i + 1)) = some d_1 ∧ d_1 ≤ 3 else Q (.bl false) H3) := fun H3 b s3 eb => by
        dsimp only at hsc sc1
        by_cases cw : w = wEnd
        · have e1 : Sg l = ("end" : Str) := by
            rw [ei.mpr cw]
            exact t3.symm
          rw [if_pos cw] at hsc sc1
          have b0 : b = 0 := by
            rw [eb, cw]
            rfl
          simp only [if_pos e1]
          cases d with
          | zero =>
            rw [if_neg (by omega)]
            exact bad _ s3 fun g => by have z := g.1; rw [hsc, if_pos rfl] at z; cases z
          | succ d =>
            rw [if_pos (by omega), if_neg (by omega)]
            rw [if_neg (Nat.succ_ne_zero d)] at sc1
            exact ⟨d, some (.str (Sg l)), by rw [show ((d + 1 : Nat) : Int) + b - 1 = (d : Int) from by omega], s3, sc1, by omega⟩
        · have e1 : ¬ Sg l = ("end" : Str) := fun z => cw (ei.mp (Sg_inj.mp (z.trans t3)))
          rw [if_neg cw] at hsc sc1
          simp only [if_neg e1]
          cases bl : isBl w with
          | true =>
            rw [bl, if_pos rfl] at hsc sc1 eb
            by_cases c3 : d = 3
            · rw [if_pos (by omega), if_pos (by omega)]
              exact bad _ s3 fun g => by have z := g.1; rw [hsc, if_pos c3] at z; cases z
            · rw [if_pos (by omega), if_neg (by omega)]
              rw [if_neg c3] at sc1
              exact ⟨d + 1, some (.str (Sg l)), by rw [show (d : Int) + b - 0 = ((d + 1 : Nat) : Int) from by omega], s3, sc1, by omega⟩
          | false =>
            rw [bl, if_neg Bool.false_ne_true] at hsc sc1 eb
            rw [if_pos (by omega), if_neg (by omega)]
            exact ⟨d, some (.str (Sg l)), by rw [show (d : Int) + b - 0 = (d : Int) from by omega], s3, sc1, d3⟩
      refine r_slStr (by omega) ?_
      rw [show cutL l none (some 3) = l.take 3 from cutL_to (k := 3)]
      walk_at "wt"
      by_cases c1 : l.take 3 = [105, 102, 32]
      · rw [if_pos (show Sg (l.take 3) = ("if " : Str) from by rw [c1]; exact t1.symm)]
        exact fin H2 1 s02 (by rw [if_pos (bp.mp (.inl c1))])
      · rw [if_neg (show ¬ Sg (l.take 3) = ("if " : Str) from fun z => c1 (Sg_inj.mp (z.trans t1)))]
        refine r_slStr (by omega) ?_
        rw [show cutL l none (some 6) = l.take 6 from cutL_to (k := 6)]
        by_cases c2 : l.take 6 = [97, 103, 97, 105, 110, 32]
        · have := fin H2 1 s02 (by rw [if_pos (bp.mp (.inr c2))])
          walk_at "wt"
          simp only [if_pos (show Sg (l.take 6) = ("again " : Str) from by rw [c2]; exact t2.symm)]
          exact this
        · have := fin H2 0 s02 (by rw [if_neg (fun z => (bp.mpr z).elim c1 c2)])
          walk_at "wt"
          simp only [if_neg (show ¬ Sg (l.take 6) = ("again " : Str) from fun z => c2 (Sg_inj.mp (z.trans t2)))]
          exact this
    · rintro σ H' ⟨d, o2, rfl, s, sc, d3⟩
      rw [SgL_len, List.take_length] at sc
      walk_at "wt"
      by_cases d0 : d = 0
      · rw [if_pos (by omega)]
        refine ⟨a, ls, rfl, s _ _ ha, hl, hc, fun p H2 np s2 hp => ?_⟩
        refine r_lenL hp ?_
        rw [SgL_len]
        walk_at "wt"
        rw [lawN_eq (scan_stm sc)]
        by_cases c : (dd (allN ls)).length ≤ 42
        · rw [decide_eq_true (by omega)]
          exact good _ (s.trans s2) ⟨by rw [sc, d0], c⟩
        · rw [decide_eq_false (by omega)]
          exact bad _ (s.trans s2) fun g => c g.2
      · rw [if_neg (by omega)]
        exact bad _ s fun g => by
          have z := g.1
          rw [sc] at z
          exact d0 (Option.some.inj z)
end

local macro_rules | `(tactic| walk_at "wt") => `(tactic| try simp only [↓x_var0, ↓x_varS, ↓x_c, ↓x_op, ↓x_un, ↓x_cb, ↓x_nil, ↓x_cons, ↓x_test, ↓x_b, ↓x_ex, ↓x_and, ↓x_or, ↓x_not, ↓x_andV, ↓x_orV, ↓x_notV, ↓x_tif, ↓x_chain, ↓x_menu, ↓x_menuI, ↓x_lst, ↓x_tup, ↓x_dnew, ↓x_callW, ↓x_callN, ↓x_seq, ↓x_next, ↓x_ret, ↓x_retN, ↓x_drop, ↓x_ifS, ↓x_asg, ↓x_name, ↓x_raise, ↓x_fld, ↓x_setF, ↓x_meth, ↓x_make, ↓x_sub, ↓r_min, ↓r_max, ↓x_yes, ↓x_for, ↓x_lock, ↓x_keys, ↓x_cut, ↓x_lc, ↓x_rng1, ↓x_rng2, ↓x_lst1, ↓x_itup, ↓x_rng3, ↓x_three, ↓x_lstg, ↓x_tupg, ↓x_adrS, ↓x_one, ↓x_two, ↓x_adr, ↓x_sl, ↓x_np, ↓x_pt, ↓x_int, ↓x_bm, ↓x_bm0, ↓x_consg, ↓x_nilg, ↓x_dget2, ↓x_dget1, ↓x_dgetN, ↓x_dget, ↓x_din, ↓x_dni, ↓x_dput, ↓x_dpop2, ↓r_isB, ↓r_notB, ↓x_enum, ↓x_zip, ↓x_str, ↓x_strE, ↓r_inS, ↓r_ninS, wipe, List.map_cons, List.map_nil, ↓x_isT, ↓r_isiII, ↓r_isiBB, ↓r_isiIB, ↓r_isiSS, ↓r_neNS, ↓r_neSN, ↓r_neNN, ↓r_eqNS, ↓r_eqSN, ↓r_eqNN, ↓r_eqIS, ↓r_neIS, ↓r_neSI, ↓r_neBS, ↓r_eqBB, ↓r_neBB, ↓x_start, ↓x_K, ↓x_start0, ↓r_i0, ↓r_i, ↓r_u, ↓r_addI, ↓r_addS, ↓r_mulI, ↓r_mulS, ↓r_eqI, ↓r_neI, ↓r_eqS, ↓r_neS, ↓r_absI, ↓r_intI, ↓r_intB, List.length_cons, List.length_nil, List.replicate, List.set_cons_zero, List.set_cons_succ, decide_eq_true_eq, Bool.not_eq_true', decide_eq_false_iff_not, if_true, if_false, Bool.false_eq_true, Bool.true_eq_false, ite_true, ite_false, Bool.not_true, Bool.not_false, c_div, n_ten, c_pow, not_true_eq_false, not_false_eq_true, decide_true, decide_false, true_and, and_true, and_self, true_or, or_true, Int.reduceLT, Int.reduceLE, Int.reduceMul, Int.reduceAdd, Int.reduceSub, Int.reducePow, Int.reduceNeg, Int.reduceDiv, Int.reduceMod, Nat.reducePow, Int.reduceToNat, Int.reduceEq, Int.reduceNe, Nat.reduceLT, Nat.reduceLeDiff, Nat.reduceAdd, ↓x_whole, ↓r_repS, ↓r_repS, ↓r_repS, ↓r_repS, ↓r_repS, ↓r_repS, ↓x_zipS, ↓r_repS, ↓r_repS, ↓r_repS, ↓r_repS])
/-! ## a told program, written -/
theorem num_asc {n : Int} : ∀ c ∈ figL n, c < 128 := fun c m => by
  unfold figL at m
  rcases List.mem_append.mp m with m | m
  · split at m
    · rw [List.mem_singleton.mp m]
      decide
    · exact (List.not_mem_nil m).elim
  · have := TL.numL_digits n.natAbs c m
    omega
theorem num_small {p : Ln} {n : Int} (h : numP p = some n) : n.natAbs < 10 ^ 60 := by
  obtain ⟨h1, h2⟩ := numP_is h
  have le : ∀ {l : List Nat}, canB l → l.length ≤ 60 → valL l < 10 ^ 60 := fun {l} c g => Nat.lt_of_lt_of_le (valL_lt rfl c.2.1) (Nat.pow_le_pow_right (by decide) g)
  rcases h1 with ⟨-, eb, e, c⟩ | ⟨-, -, e, c, -⟩
  · rw [eb] at h2
    have := le c h2
    omega
  · have := le c h2
    omega
/-- a part, told: a name's text or a number -/
def Prt (v : V) (p : Ln) : Prop := (v = .str (Sg p) ∧ isNm p = true) ∨ ∃ n, v = .int n ∧ numP p = some n ∧ p = figL n ∧ n.natAbs < 10 ^ 60
theorem read_prt {s : Nat} {p : Ln} {v : V} (h : readL s p = some v) : Prt v p := by
  unfold readL at h
  split at h
  · split at h
    · rename_i c
      cases h
      exact .inl ⟨rfl, c⟩
    · cases h
  · split at h
    · cases h
    · rename_i n en
      split at h
      · cases h
      · cases h
        exact .inr ⟨n, rfl, en, num_fig en, num_small en⟩
theorem reads_prt {ss : List Nat} {ps : List Ln} {vs : List V} {i : Nat} {v : V} (h : readsL ss ps = some vs) (e : vs[i]? = some v) : ∃ p, ps[i]? = some p ∧ Prt v p := by
  obtain ⟨h1, h2⟩ := readsL_len h
  have il := (List.getElem?_eq_some_iff.mp e).1
  obtain ⟨p, ep⟩ : ∃ p, ps[i]? = some p := ⟨_, List.getElem?_eq_getElem (by omega)⟩
  obtain ⟨s, es⟩ : ∃ s, ss[i]? = some s := ⟨_, List.getElem?_eq_getElem (by omega)⟩
  obtain ⟨v', ev, rv⟩ := readsL_at h es ep
  rw [e] at ev
  cases ev
  exact ⟨p, ep, read_prt rv⟩
theorem nm_num {p : Ln} (h : isNm p = true) : (numP p).isSome = false := by
  cases e : numP p with
  | none => rfl
  | some n => rw [num_nm e] at h; cases h
theorem nm_asc {p : Ln} (h : isNm p = true) : p.length ≤ 8 ∧ ∀ c ∈ p, c < 128 := by
  obtain ⟨h1, h2, h3, h4⟩ := of_decide_eq_true h
  refine ⟨h2, fun c m => ?_⟩
  have := of_decide_eq_true (List.all_eq_true.mp h3 c m)
  omega
def sp_written : Nat → PySem.W.Frag → Sp
  | 0, _ => fun _ _ _ _ => False
  | n + 1, _ => fun vs H Q _ => ∃ p ls N m, m ≤ n ∧ vs = [.ref p] ∧ ProgAt m H N p ls ∧ ls.length ≤ 10000 ∧ (∀ l ∈ ls, l.length ≤ 10000) ∧ ∀ q H', H q = none → Same H H' → H' q = some (.lst (SgL ls)) → Q (.ref q) H'
def sp_refused (_ : PySem.W.Frag) : Sp := fun vs H Q _ => ∃ v, vs = [v] ∧ ((∃ t, v = .str (Sg t) ∧ t.length ≤ 1000000 ∧ t ≠ [] ∧ (linesT t).length ≤ 1000 ∧ ¬ goodL (linesT t)) ∨ ∃ ty, tyOf v H = some ty ∧ ty ≠ "str") ∧ ∀ H', Same H H' → Q (.bl true) H'
theorem r_strX {i : Int} {H : Hp} {Q : VK} (h : i.natAbs.log2 < 1920) (q : Q (.str (Str.ofString (toString i))) H) : gStrX [.int i] H Q := ⟨h, q⟩
theorem r_popEnd {H : Hp} {Q : VK} {l : Addr} {xs : List V} {y : V} (h : H l = some (.lst (xs ++ [y]))) (q : Q y (upd H l (.lst xs))) : rPop (.ref l) [] H Q := by
  refine ⟨l, _, y, rfl, rfl, h, ?_, ?_⟩
  · rw [List.length_append, show xs.length + [y].length - 1 = xs.length from rfl]
    exact lat_end rfl
  · rw [List.dropLast_concat]
    exact q
section
variable {P : Program} {w : World} {K : PySem.W.Frag} {mg : Str → Option Value} {base : Heap}
theorem f__law_written (T : Tx K mg) : ∀ n : Nat, Fn P w K mg base (n + 2) "_law_written" ["_law_program"] (sp_written n K)
  | 0 => T.mkFn 25 39 (d := d__law_written) (N := ["_law_program", "_law_lines_here", "_law_row_here", "_law_parts", "_law_inner", "_law_part"]) (k := 1) rfl rfl rfl rfl rfl sc__law_written (fun _ _ _ _ _ _ us hl => match us, hl with | [_], _ => rfl) (fun vs H Q E h => (show False from h).elim) (fun cdv A outer s H vs Q E hr h => (show False from h).elim)
  | n + 1 => by
    have c__law_written := f__law_written T n
    have c__law_whole := f__law_whole (P := P) (w := w) (base := base) T
    have c__law_is_number := f__law_is_number (P := P) (w := w) (base := base) T
    refine T.mkFn 25 39 (d := d__law_written) (N := ["_law_program", "_law_lines_here", "_law_row_here", "_law_parts", "_law_inner", "_law_part"]) (k := n + 2) rfl rfl rfl rfl rfl sc__law_written (fun _ _ _ _ _ _ us hl => match us, hl with | [_], _ => rfl) (fun vs H Q E h => ?len) (fun cdv A outer s H vs Q E hr h => ⟨_,
        (pss_cons (ps_set (i := 1) sc__law_written.nd rfl (Or.inl rfl) (pe_lst pa_nil))
          (pss_cons (ps_if (pt_not (pt_val (pe_callB call_gIsi (by rfl) (T.free 49) (by decide +kernel) (pa_cons (pv 0) (pa_cons (pe_ty (T := "list") (T.free 56) (by decide +kernel) (by rfl)) pa_nil))))) (pss_one (ps_ret pe_non)) pss_nil)
          (pss_cons (ps_for (passes_of rfl) rfl (pi_listK (K := K) rfl (pv 0)) (pg_name (i := 2) sc__law_written.nd rfl (Or.inl rfl)) (pss_cons (ps_if (PW.pt (pw_or (pt_not (pt_val (pe_callB call_gIsi (by rfl) (T.free 49) (by decide +kernel) (pa_cons (pv 2) (pa_cons (pe_ty (T := "tuple") (T.free 57) (by decide +kernel) (by rfl)) pa_nil))))) (pw_or (pt_cmpR op_lt (pe_callB (call_lenK (K := K) rfl) (by rfl) (T.free 50) PySem.boot_len (pa_cons (pv 2) pa_nil)) pe_int (nomark _)) (pw_or1 (pt_not (pt_val (pe_callB call_gIsi (by rfl) (T.free 49) (by decide +kernel) (pa_cons (pe_ix (ix_seqK (K := K) rfl) (pv 2) pe_int (fun _ _ => rfl)) (pa_cons (pe_ty (T := "str") (T.free 55) (by decide +kernel) (by rfl)) pa_nil))))))))) (pss_one (ps_ret pe_non)) pss_nil)
          (pss_cons (ps_set (i := 3) sc__law_written.nd rfl (Or.inl rfl) (pe_callTy (call_listK (K := K) rfl) (by rfl) (T.free 56) (by decide +kernel) (pa_cons (pv 2) pa_nil)))
          (pss_cons (ps_set (i := 4) sc__law_written.nd rfl (Or.inl rfl) (pe_lst pa_nil))
          (pss_cut (ps_if (pt_cmpR (op_inTG (K := K) rfl (hu65 hr)) (pe_ix (ix_seqK (K := K) rfl) (pv 2) pe_int (fun _ _ => rfl)) (pe_tup (pa_cons pe_str (pa_cons pe_str pa_nil))) (by rfl)) (pss_cons (ps_set (i := 4) sc__law_written.nd rfl (Or.inl rfl) (pe_fn (takes_of rfl rfl rfl rfl) c__law_written (hr.mono (by omega)) (by rfl) (pa_cons (pe_bm0 PySem.F.plainAttrs_list PySem.F.slot_list_pop PySem.F.type_list_pop mt_pop (pv 3)) pa_nil)))
          (pss_cons (ps_if (pt_cmpR op_isN (pv 4) pe_non (nomark _)) (pss_one (ps_ret pe_non)) pss_nil)
          (pss_one (ps_set (i := 4) sc__law_written.nd rfl (Or.inl rfl) (pe_op op_gAdd (pv 4) (pe_lst (pa_cons pe_str pa_nil))))))) pss_nil)
          (pss_cons (ps_if (pt_cmpR op_gt (pe_callB (call_lenK (K := K) rfl) (by rfl) (T.free 50) PySem.boot_len (pa_cons (pe_lc (own := [("_law_part", 5)]) (g := gName 5) rfl sc__law_written.nd (pi_listK (K := K) rfl (pv 3)) (blkOk_by (own := [("_law_part", 5)]) (N := ["_law_program", "_law_lines_here", "_law_row_here", "_law_parts", "_law_inner", "_law_part"]) (sc := defScope s__law_written) (by decide +kernel)) (fun _ _ _ _ _ => (pg_name (i := 5) sc__law_written.nd rfl (Or.inl rfl))) (fun _ _ _ _ _ => pts_one (PW.pt (pw_and (pt_not (pt_val (pe_fnH c__law_whole (roomN_of (hr.mono (by omega))) (by rfl) (pa_cons (pv 5) pa_nil)))) (pw_and1 (pt_not (pt_val (pe_callB call_gIsi (by rfl) (T.free 49) (by decide +kernel) (pa_cons (pv 5) (pa_cons (pe_ty (T := "str") (T.free 55) (by decide +kernel) (by rfl)) pa_nil))))))))) (fun _ _ _ _ _ => (pv 5))) pa_nil)) pe_int (nomark _)) (pss_one (ps_ret pe_non)) pss_nil)
          (pss_cons (ps_if (pt_cmpR op_gt (pe_callB (call_lenK (K := K) rfl) (by rfl) (T.free 50) PySem.boot_len (pa_cons (pe_lc (own := [("_law_part", 5)]) (g := gName 5) rfl sc__law_written.nd (pi_listK (K := K) rfl (pe_slice (sl_listK (K := K) rfl) (pv 3) (po_some pe_int) po_none)) (blkOk_by (own := [("_law_part", 5)]) (N := ["_law_program", "_law_lines_here", "_law_row_here", "_law_parts", "_law_inner", "_law_part"]) (sc := defScope s__law_written) (by decide +kernel)) (fun _ _ _ _ _ => (pg_name (i := 5) sc__law_written.nd rfl (Or.inl rfl))) (fun _ _ _ _ _ => pts_one (pt_cmpR (op_neK (K := K) rfl hr.units) (pe_fnH c__law_whole (roomN_of (hr.mono (by omega))) (by rfl) (pa_cons (pv 5) pa_nil)) (pe_fn takes0 c__law_is_number (hr.mono (by omega)) (by rfl) (pa_cons (pe_callTy call_gStrX (by rfl) (T.free 55) (by decide +kernel) (pa_cons (pv 5) pa_nil)) pa_nil)) (nomark _))) (fun _ _ _ _ _ => (pv 5))) pa_nil)) pe_int (nomark _)) (pss_one (ps_ret pe_non)) pss_nil)
          (pss_one (ps_set (i := 1) sc__law_written.nd rfl (Or.inl rfl) (pe_op op_gAdd (pe_op op_gAdd (pv 1) (pe_lst (pa_cons (pe_bm PySem.F.plainAttrs_str PySem.F.slot_str_join PySem.F.type_str_join (mt_joinK (K := K) rfl) pe_str (pa_cons (pe_lc (own := [("_law_part", 5)]) (g := gName 5) rfl sc__law_written.nd (pi_listK (K := K) rfl (pv 3)) (blkOk_by (own := [("_law_part", 5)]) (N := ["_law_program", "_law_lines_here", "_law_row_here", "_law_parts", "_law_inner", "_law_part"]) (sc := defScope s__law_written) (by decide +kernel)) (fun _ _ _ _ _ => (pg_name (i := 5) sc__law_written.nd rfl (Or.inl rfl))) (fun _ _ _ _ _ => pts_nil) (fun _ _ _ _ _ => (pe_callTy call_gStrX (by rfl) (T.free 55) (by decide +kernel) (pa_cons (pv 5) pa_nil)))) pa_nil)) pa_nil))) (pv 4)))))))))))
          (pss_one (ps_ret (pv 1)))))), ?rd⟩)
    case len => obtain ⟨_, _, _, _, _, rfl, _⟩ := h; rfl
    case rd =>
      obtain ⟨p, ls, N, m, hm, rfl, hp, hl, hc, q⟩ := h
      have sz : 10000000 ≤ sizeLine := by rw [sizeLine_eq]; omega
      obtain ⟨z1, z2, z3, z4, z5, z6, z7, z8, z9, z10⟩ := lits
      walk_at "wt"
      refine ⟨by omega, fun l0 nl0 => ?_⟩
      have s1 := same_new (o := .lst []) nl0
      have hl0 : upd H l0 (.lst []) l0 = some (.lst []) := upd_same
      have hp1 := hp.same s1
      generalize upd H l0 (.lst []) = H1 at s1 hl0 hp1 ⊢
      obtain ⟨rs, hrs, ch⟩ := hp1.pr
      obtain ⟨cs, c1, c2, c3⟩ := ch.split
      refine r_isi (t := "list") (by show tyO (H1 p) = _; rw [hrs]; rfl) ?_
      refine ⟨_, rfl, ?_⟩
      rw [if_neg (show ¬ isB "list" "list" = false from by decide)]
      refine ⟨⟨_, .of hrs⟩, forW_list (xs := rs.map V.ref) (fun i σ H' => ∃ q o2 o3 o4, σ = [some (.ref p), some (.ref q), o2, o3, o4, none] ∧ H q = none ∧ Same H1 H' ∧ H' q = some (.lst (SgL (cs.take i).flatten))) ⟨l0, _, _, _, rfl, nl0, Same.refl _, hl0⟩ ?_ ?_ ?_⟩
      · rintro i σ H' hi ⟨q1, o2, o3, o4, rfl, nq1, s, hq1⟩
        exact .of (s _ _ hrs)
      · rintro i x σ H' hx ⟨q1, o2, o3, o4, rfl, nq1, s, hq1⟩
        obtain ⟨r, er, rfl⟩ : ∃ r, rs[i]? = some r ∧ x = .ref r := by
          rw [List.getElem?_map] at hx
          cases e3 : rs[i]? with
          | none => rw [e3] at hx; cases hx
          | some k => rw [e3] at hx; cases hx; exact ⟨k, rfl, rfl⟩
        obtain ⟨c, ec, sc⟩ := c3 i r er
        rw [flatten_take ec]
        have sc := sc.fr (H' := H') (N' := N) (fun c xs g => s _ _ g) fun q xs n g => ⟨n, s _ _ g⟩
        obtain ⟨l, w, vs, hst, hh⟩ := sc.tup
        obtain ⟨pr, ss, e1, e2, e3, e4, e5, e6⟩ := stm_is hst
        obtain ⟨more, tw, hm1⟩ : ∃ more, H' r = some (.tup (.str (Sg w) :: (vs ++ more))) ∧ more.length ≤ 1 := by
          rcases hh with ⟨_, _, _, e⟩ | ⟨m', q, inner, rs', _, _, _, e, _⟩
          · exact ⟨[], by rw [List.append_nil]; exact e, Nat.zero_le _⟩
          · exact ⟨[.ref q], e, Nat.le_refl _⟩
        have nw : w ≠ wEnd := by
          rcases hh with ⟨_, b2, _, _⟩ | ⟨_, _, _, _, _, b1, _, _, _⟩
          · exact b2
          · intro z
            rw [z] at b1
            exact absurd b1 (by decide)
        have vl : 1 ≤ vs.length := by
          rw [e5]
          cases ss with
          | nil => exact absurd (shp_end_is e2) nw
          | cons _ _ => exact Nat.succ_le_succ (Nat.zero_le _)
        walk_at "wt"
        refine r_isiT tw ?_
        refine ⟨_, rfl, ?_⟩
        rw [if_neg (fun z => by cases z)]
        refine r_lenT tw ?_
        have vl2 : ¬ (((V.str (Sg w) :: (vs ++ more)).length : Int) < 2) := by
          rw [List.length_cons, List.length_append]
          omega
        walk_at "wt"
        rw [if_neg (show ¬ (((vs ++ more).length + 1 : Nat) : Int) < 2 from vl2)]
        refine r_ixT (i := 0) tw rfl ?_
        refine r_isi (t := "str") rfl ?_
        refine ⟨_, rfl, ?_⟩
        rw [if_neg (show ¬ isB "str" "str" = false from by decide)]
        refine ⟨r, _, rfl, .inr (.inl (.inl tw)), fun pa npa => ⟨by omega, fun qi nqi => ?_⟩⟩
        have sa := same_new (o := .lst (.str (Sg w) :: (vs ++ more))) npa
        have sb := same_new (o := .lst []) nqi
        have ha := sb _ _ (upd_same (H := H') (a := pa) (o := .lst (.str (Sg w) :: (vs ++ more))))
        have hqi : upd (upd H' pa (.lst (.str (Sg w) :: (vs ++ more)))) qi (.lst []) qi = some (.lst (SgL [])) := upd_same
        have s2 := sa.trans sb
        have nqi' := none_of sa nqi
        have npq : pa ≠ qi := ne_of_none upd_same nqi
        generalize upd (upd H' pa (.lst (.str (Sg w) :: (vs ++ more)))) qi (.lst []) = H2 at ha hqi s2 ⊢
        have lp := take_le (cs := cs) (k := i + 1)
        rw [← c2, flatten_take ec, List.length_append] at lp
        refine ⟨fun σ' Hx => ∃ pb qj inn, σ' = [some (.ref p), some (.ref q1), some (.ref r), some (.ref pb), some (.ref qj), none] ∧ Same H' Hx ∧ Hx pb = some (.lst (.str (Sg w) :: vs)) ∧ Hx qj = some (.lst (SgL inn)) ∧ l :: inn = c, ?_, ?_⟩
        · refine r_ixT (i := 0) (s2 _ _ tw) rfl ⟨by omega, fun p2 np2 => ?_⟩
          have s3 := same_new (o := .tup [.str "again", .str "if"]) np2
          refine r_inT (xs := SgL [wAgain, wIf]) (by rw [z8, z9]; exact upd_same) rfl SgL_flat ?_
          rw [inV_S]
          have ha3 := s3 _ _ ha
          have hq3 := s3 _ _ hqi
          have s23 := s2.trans s3
          generalize upd H2 p2 (.tup [.str "again", .str "if"]) = H3 at ha3 hq3 s23 ⊢
          refine ⟨_, rfl, ?_⟩
          rw [show decide (w ∈ [wAgain, wIf]) = isBl w from by unfold isBl; congr 1; simp only [List.mem_cons, List.not_mem_nil, or_false]]
          rcases hh with ⟨b1, b2, b3, b4⟩ | ⟨m', q', inner, rs', em, b1, b3, b4, b5, b6, b7⟩
          · rw [b1, if_neg Bool.false_ne_true]
            have em : more = [] := by
              rw [b4] at tw
              have z := (List.cons.inj (HO.tup.inj (Option.some.inj tw))).2
              have := congrArg List.length z
              rw [List.length_append] at this
              exact List.eq_nil_of_length_eq_zero (by omega)
            rw [em, List.append_nil] at ha3
            exact ⟨pa, qi, [], rfl, s23, ha3, hq3, b3.symm⟩
          · rw [b1, if_pos rfl]
            have em2 : more = [.ref q'] := by
              rw [b4] at tw
              exact (List.append_cancel_left (List.cons.inj (HO.tup.inj (Option.some.inj tw))).2).symm
            rw [em2] at ha3
            refine ⟨.inl ⟨rfl, _, .of ha3⟩, r_popEnd (xs := .str (Sg w) :: vs) ha3 ?_⟩
            obtain ⟨n', en⟩ : ∃ n', n = n' + 1 := ⟨n - 1, by omega⟩
            rw [en]
            have s34 : Same H' (upd H3 pa (.lst (.str (Sg w) :: vs))) := fun b o g => (upd_ne (ne_of_none g npa)).trans (s23 _ _ g)
            have hpa4 : upd H3 pa (.lst (.str (Sg w) :: vs)) pa = some (.lst (.str (Sg w) :: vs)) := upd_same
            generalize upd H3 pa (.lst (.str (Sg w) :: vs)) = H4 at s34 hpa4 ⊢
            have pi : ProgAt m' H4 N q' inner := ⟨b5, rs', s34 _ _ b6, b7.mono fun _ _ g => g.fr (fun c xs g => s34 _ _ g) fun q xs n g => ⟨n, s34 _ _ g⟩⟩
            have lc : inner.length ≤ c.length := by
              rw [b3, List.length_cons, List.length_append]
              omega
            have mc : ∀ x ∈ inner, x ∈ ls := fun x mx => by
              have : x ∈ c := by rw [b3]; exact List.mem_cons_of_mem _ (List.mem_append_left _ mx)
              rw [c2]
              exact List.mem_flatten.mpr ⟨c, List.mem_of_getElem? ec, this⟩
            refine ⟨q', inner, N, m', by omega, rfl, pi, by omega, fun x mx => hc x (mc x mx), fun q5 H5 nq5 s5 hq5 => ?_⟩
            dsimp only
            rw [if_neg (fun z => by cases z)]
            refine ⟨by omega, fun e0 ne0 => ?_⟩
            have s6 := same_new (o := .lst [.str "end"]) ne0
            refine ⟨_, _, s6 _ _ hq5, upd_same, by rw [SgL_len]; show _ + 1 ≤ _; omega, fun q6 nq6 => ?_⟩
            have s7 := s6.trans (same_new (o := .lst (SgL inner ++ [.str "end"])) nq6)
            refine ⟨pa, q6, inner ++ [wEnd], rfl, (s34.trans s5).trans s7, s7 _ _ (s5 _ _ hpa4), ?_, b3.symm⟩
            rw [upd_same, z10]
            unfold SgL
            rw [List.map_append]
            rfl
        rintro σ' H3 ⟨pb, qj, inn, rfl, s3, hb, hj, ec2⟩
        walk_at "wt"
        have prt : ∀ x ∈ vs, ∃ p ∈ pr, Prt x p := fun x mx => by
          obtain ⟨i, ei⟩ := List.getElem?_of_mem mx
          obtain ⟨p, ep, h⟩ := reads_prt e3 ei
          exact ⟨p, List.mem_of_getElem? ep, h⟩
        refine ⟨⟨_, .of hb⟩, fun D nD => lc_list (xs := .str (Sg w) :: vs) (fun j Hx => Same H3 Hx ∧ Hx D = some (.lst [])) ⟨same_new nD, upd_same⟩ (fun j Hx _ e => .of (e.1 _ _ hb)) (fun j x Hx hx e => ?_) fun Hx e => ?_⟩
        · obtain ⟨sx, hD⟩ := e
          have px : (∃ z, x = .str z) ∨ ∃ n, x = .int n := by
            rcases List.mem_cons.mp (List.mem_of_getElem? hx) with rfl | mx
            · exact .inl ⟨_, rfl⟩
            · obtain ⟨p, -, ⟨rfl, -⟩ | ⟨n, rfl, -⟩⟩ := prt x mx
              · exact .inl ⟨_, rfl⟩
              · exact .inr ⟨_, rfl⟩
          rcases px with ⟨z, rfl⟩ | ⟨n, rfl⟩
          · walk_at "wt"
            simp only [odd_whole (odd_str (z := z))]
            exact ⟨_, rfl, by split <;> exact ⟨sx, hD⟩⟩
          · walk_at "wt"
            exact ⟨sx, hD⟩
        obtain ⟨sx, hD⟩ := e
        refine r_lenL hD ?_
        walk_at "wt"
        rw [if_neg (show ¬ (0 : Int) < ((0 : Nat) : Int) from by decide)]
        have s4 := s3.trans sx
        have hb4 := sx _ _ hb
        have hj4 := sx _ _ hj
        refine ⟨pb, _, rfl, .of hb4, fun p5 np5 => ?_⟩
        rw [cutV_one, show (V.str (Sg w) :: vs).drop 1 = vs from rfl]
        have sy := same_new (o := .lst vs) np5
        have hp5 : upd Hx p5 (.lst vs) p5 = some (.lst vs) := upd_same
        have s5 := s4.trans sy
        have hb5 := sy _ _ hb4
        have hj5 := sy _ _ hj4
        generalize upd Hx p5 (.lst vs) = H5 at hp5 s5 hb5 hj5 ⊢
        clear s3 hb hj sx hD hb4 hj4 s4 sy nD np5
        refine ⟨p5, rfl, ⟨_, .of hp5⟩, fun D nD => lc_list (xs := vs) (fun j Hx => Same H5 Hx ∧ Hx D = some (.lst [])) ⟨same_new nD, upd_same⟩ (fun j Hx _ e => .of (e.1 _ _ hp5)) (fun j x Hx hx e => ?_) fun Hx e => ?_⟩
        · obtain ⟨sx, hD⟩ := e
          obtain ⟨p, -, ⟨rfl, en⟩ | ⟨n, rfl, en, ep, eb⟩⟩ := prt x (List.mem_of_getElem? hx)
          · walk_at "wt"
            simp only [odd_whole (odd_str (z := Sg p))]
            refine ⟨p, rfl, by have := (nm_asc en).1; omega, (nm_asc en).2, fun H' s' => ?_⟩
            rw [nm_num en]
            walk_at "wt"
            exact ⟨sx.trans s', s' _ _ hD⟩
          · walk_at "wt"
            refine r_strX (fig_log (by omega)) ?_
            rw [str_int]
            have lf := figL_len (n := n) (by omega)
            refine ⟨figL n, rfl, by omega, num_asc, fun H' s' => ?_⟩
            rw [show (numP (figL n)).isSome = true from by rw [← ep, en]; rfl]
            walk_at "wt"
            exact ⟨sx.trans s', s' _ _ hD⟩
        obtain ⟨sx, hD⟩ := e
        refine r_lenL hD ?_
        walk_at "wt"
        rw [if_neg (show ¬ (0 : Int) < ((0 : Nat) : Int) from by decide)]
        have hb6 := sx _ _ hb5
        have hj6 := sx _ _ hj5
        have s6 := s5.trans sx
        refine ⟨rfl, ⟨_, .of hb6⟩, fun D nD => ?_⟩
        refine lc_mapL (xs := .str (Sg w) :: vs) (ys := SgL (w :: pr)) (fun _ => rfl) (fun acc => .of ((upd_ne (ne_of_none hb6 nD)).trans hb6)) (by rw [List.length_cons]; omega) (by rw [SgL_len, List.length_cons, List.length_cons, e4, e5]) (fun i x y hx hy acc Q2 q2 => ?_) ?_
        · have hx2 : ∃ p, (w :: pr)[i]? = some p ∧ (x = .str (Sg p) ∨ ∃ n, x = .int n ∧ p = figL n ∧ n.natAbs < 10 ^ 60) := by
            cases i with
            | zero => cases hx; exact ⟨w, rfl, .inl rfl⟩
            | succ i =>
              obtain ⟨p, ep, ⟨rfl, -⟩ | ⟨n, rfl, -, e, b⟩⟩ := reads_prt e3 hx
              · exact ⟨p, ep, .inl rfl⟩
              · exact ⟨p, ep, .inr ⟨n, rfl, e, b⟩⟩
          obtain ⟨p, ep, h⟩ := hx2
          rw [SgL_at ep] at hy
          cases hy
          walk_at "wt"
          rcases h with rfl | ⟨n, rfl, e, b⟩
          · exact q2
          · refine r_strX (fig_log (by omega)) ?_
            rw [str_int, ← e]
            exact q2
        dsimp only
        rw [blank_lit]
        have ll := hc l (by rw [c2]; exact List.mem_flatten.mpr ⟨c, List.mem_of_getElem? ec, by rw [← ec2]; exact List.mem_cons_self⟩)
        have lsp := spl_le (s := 32) (l := l) (acc := [])
        have jl := join_spl (s := 32) (l := l) (acc := [])
        rw [List.nil_append] at jl
        rw [e1] at lsp jl
        have sm := sumlen_le (B := 10000) (ps := w :: pr) fun x m => by have := lsp.2 x m; rw [List.length_nil] at this; omega
        rw [List.length_cons] at sm
        have hb7 : upd Hx D (.lst (SgL (w :: pr))) D = some (.lst (SgL (w :: pr))) := upd_same
        have s7 := s6.trans (same_new (o := .lst (SgL (w :: pr))) nD)
        have hj7 := (same_new (o := .lst (SgL (w :: pr))) nD) _ _ hj6
        generalize upd Hx D (.lst (SgL (w :: pr))) = H7 at hb7 s7 hj7 ⊢
        refine r_join (sep := [32]) (.of hb7) (by rw [List.length_cons]; show _ + (pr.length + 1) * 1 ≤ _; omega) ?_
        rw [jl]
        have li : inn.length + 1 = c.length := by rw [← ec2]; rfl
        refine ⟨by omega, fun a1 na1 => ?_⟩
        have sA := same_new (o := .lst [.str (Sg l)]) na1
        refine ⟨_, _, sA _ _ (s7 _ _ hq1), upd_same, by rw [SgL_len]; show _ + 1 ≤ _; omega, fun a2 na2 => ?_⟩
        have sB := same_new (o := .lst (SgL (cs.take i).flatten ++ [.str (Sg l)])) na2
        refine ⟨_, _, upd_same, sB _ _ (sA _ _ hj7), by rw [List.length_append, SgL_len, SgL_len]; show _ + 1 + _ ≤ _; omega, fun a3 na3 => ?_⟩
        have sC := same_new (o := .lst ((SgL (cs.take i).flatten ++ [.str (Sg l)]) ++ SgL inn)) na3
        refine ⟨a3, _, _, _, rfl, none_of ((s1.trans s).trans (s7.trans (sA.trans sB))) na3, s.trans (s7.trans (sA.trans (sB.trans sC))), ?_⟩
        rw [upd_same, ← ec2]
        unfold SgL
        rw [List.map_append, List.map_cons, List.append_assoc]
        rfl
      · rintro σ H' ⟨q1, o2, o3, o4, rfl, nq1, s, hq1⟩
        rw [List.length_map, ← c1, List.take_length, ← c2] at hq1
        walk_at "wt"
        exact q q1 H' nq1 (s1.trans s) hq1
theorem f__law_refused (T : Tx K mg) : Fn P w K mg base 10 "_law_refused" ["_law_thing"] (sp_refused K) := by
  have c_program_of := f_program_of (P := P) (w := w) (base := base) T
  refine T.mkFn 26 40 (d := d__law_refused) (N := ["_law_thing", "e", "_law_others"]) (k := 9) rfl rfl rfl rfl rfl sc__law_refused (fun _ _ _ _ _ _ us hl => match us, hl with | [_], _ => rfl) (fun vs H Q E h => ?len) (fun cdv A outer s H vs Q E hr h => ⟨_,
      (pss_cons (ps_tryT (i := 1) rfl rfl rfl sc__law_refused.nd rfl rfl ⟨by rfl, by decide, Or.inl (T.glo 0)⟩ (takes_of rfl rfl rfl rfl) (fun W pn xe tk po => (pss_one (ps_expr (pe_fn tk c_program_of (hr.mono (by decide)) (by rfl) (pa_cons (pv 0) pa_nil))))) (su_cons (fun a pn => (ps_set (i := 2) sc__law_refused.nd rfl (Or.inl rfl) (pe_isTK (K := K) rfl (by rfl) (T.free 49) (pv 1) (pa_cons (pe_clsK (K := K) rfl (T.glo 3) (by rfl)) (pa_cons (pe_clsK (K := K) rfl (T.glo 1) (by rfl)) (pa_cons (pe_clsK (K := K) rfl (T.glo 2) (by rfl)) (pa_cons (pe_clsK (K := K) rfl (T.glo 7) (by rfl)) (pa_cons (pe_clsK (K := K) rfl (T.glo 11) (by rfl)) (pa_cons (pe_clsK (K := K) rfl (T.glo 8) (by rfl)) (pa_cons (pe_clsK (K := K) rfl (T.glo 12) (by rfl)) pa_nil))))))))))
        (su_cons (fun a pn => (ps_set (i := 2) sc__law_refused.nd rfl (Or.inl rfl) (pe_or (pv 2) (pe_one (pe_isTK (K := K) rfl (by rfl) (T.free 49) (pv 1) (pa_cons (pe_clsK (K := K) rfl (T.glo 10) (by rfl)) (pa_cons (pe_clsK (K := K) rfl (T.glo 4) (by rfl)) (pa_cons (pe_clsK (K := K) rfl (T.glo 5) (by rfl)) (pa_cons (pe_clsK (K := K) rfl (T.glo 6) (by rfl)) (pa_cons (pe_clsK (K := K) rfl (T.glo 9) (by rfl)) pa_nil))))))))))
        (su_one (fun a pn => (ps_ret (pe_and (pe_callB (call_isEK (K := K) rfl) (by rfl) (T.free 49) (by decide +kernel) (pa_cons (pv 1) (pa_cons (pe_clsK (K := K) rfl (T.glo 13) (by rfl)) pa_nil))) (pe_and (pe_callB (call_isEK (K := K) rfl) (by rfl) (T.free 49) (by decide +kernel) (pa_cons (pv 1) (pa_cons (pe_ty (T := "ValueError") (T.free 59) (by decide +kernel) (by rfl)) pa_nil))) (pe_one (pe_not (pv 2)))))))))))
        (pss_one (ps_ret pe_bl))), ?rd⟩)
  case len => obtain ⟨_, rfl, _⟩ := h; rfl
  case rd =>
    obtain ⟨v, rfl, h, q⟩ := h
    walk_at "wt"
    rcases h with ⟨t, rfl, hl, n0, l1, ng⟩ | ⟨ty, e1, e2⟩
    · refine .inl ⟨t, rfl, hl, .inr ⟨n0, l1, fun _ H1 s => T.caught (by decide +kernel) (by decide +kernel) (by decide +kernel) fun a na => ?_, fun p H' g => absurd g ng⟩⟩
      have ha : upd H1 a (ExA (Ex K "NoProgram") a) a = some (ExA (Ex K "NoProgram") a) := upd_same
      have sa := s.trans (same_new (o := ExA (Ex K "NoProgram") a) na)
      generalize upd H1 a (ExA (Ex K "NoProgram") a) = H2 at ha sa ⊢
      walk_at "wt"
      (apply T.isA (b := false) ha; (· repeat first | exact .nil | apply NamesK.cons); (· decide +kernel); (· decide +kernel); (· decide +kernel); (· decide +kernel))
      walk_at "wt"
      (apply T.isA (b := false) ha; (· repeat first | exact .nil | apply NamesK.cons); (· decide +kernel); (· decide +kernel); (· decide +kernel); (· decide +kernel))
      walk_at "wt"
      refine T.isY ha (by decide +kernel) (by decide +kernel) (by decide +kernel) ?_
      walk_at "wt"
      refine T.isV ha (by decide +kernel) ?_
      walk_at "wt"
      exact q _ sa
    · refine .inr ⟨v, ty, rfl, e1, e2, T.caught (by decide +kernel) (by decide +kernel) (by decide +kernel) fun a na => ?_⟩
      have s := Same.refl H
      have ha : upd H a (ExA (Ex K "NoProgram") a) a = some (ExA (Ex K "NoProgram") a) := upd_same
      have sa := s.trans (same_new (o := ExA (Ex K "NoProgram") a) na)
      generalize upd H a (ExA (Ex K "NoProgram") a) = H2 at ha sa ⊢
      walk_at "wt"
      (apply T.isA (b := false) ha; (· repeat first | exact .nil | apply NamesK.cons); (· decide +kernel); (· decide +kernel); (· decide +kernel); (· decide +kernel))
      walk_at "wt"
      (apply T.isA (b := false) ha; (· repeat first | exact .nil | apply NamesK.cons); (· decide +kernel); (· decide +kernel); (· decide +kernel); (· decide +kernel))
      walk_at "wt"
      refine T.isY ha (by decide +kernel) (by decide +kernel) (by decide +kernel) ?_
      walk_at "wt"
      refine T.isV ha (by decide +kernel) ?_
      walk_at "wt"
      exact q _ sa
end

local macro_rules | `(tactic| walk_at "wt") => `(tactic| try simp only [↓x_var0, ↓x_varS, ↓x_c, ↓x_op, ↓x_un, ↓x_cb, ↓x_nil, ↓x_cons, ↓x_test, ↓x_b, ↓x_ex, ↓x_and, ↓x_or, ↓x_not, ↓x_andV, ↓x_orV, ↓x_notV, ↓x_tif, ↓x_chain, ↓x_menu, ↓x_menuI, ↓x_lst, ↓x_tup, ↓x_dnew, ↓x_callW, ↓x_callN, ↓x_seq, ↓x_next, ↓x_ret, ↓x_retN, ↓x_drop, ↓x_ifS, ↓x_asg, ↓x_name, ↓x_raise, ↓x_fld, ↓x_setF, ↓x_meth, ↓x_make, ↓x_sub, ↓r_min, ↓r_max, ↓x_yes, ↓x_for, ↓x_lock, ↓x_keys, ↓x_cut, ↓x_lc, ↓x_rng1, ↓x_rng2, ↓x_lst1, ↓x_itup, ↓x_rng3, ↓x_three, ↓x_lstg, ↓x_tupg, ↓x_adrS, ↓x_one, ↓x_two, ↓x_adr, ↓x_sl, ↓x_np, ↓x_pt, ↓x_int, ↓x_bm, ↓x_bm0, ↓x_consg, ↓x_nilg, ↓x_dget2, ↓x_dget1, ↓x_dgetN, ↓x_dget, ↓x_din, ↓x_dni, ↓x_dput, ↓x_dpop2, ↓r_isB, ↓r_notB, ↓x_enum, ↓x_zip, ↓x_str, ↓x_strE, ↓r_inS, ↓r_ninS, wipe, List.map_cons, List.map_nil, ↓x_isT, ↓r_isiII, ↓r_isiBB, ↓r_isiIB, ↓r_isiSS, ↓r_neNS, ↓r_neSN, ↓r_neNN, ↓r_eqNS, ↓r_eqSN, ↓r_eqNN, ↓r_eqIS, ↓r_neIS, ↓r_neSI, ↓r_neBS, ↓r_eqBB, ↓r_neBB, ↓x_start, ↓x_K, ↓x_start0, ↓r_i0, ↓r_i, ↓r_u, ↓r_addI, ↓r_addS, ↓r_mulI, ↓r_mulS, ↓r_eqI, ↓r_neI, ↓r_eqS, ↓r_neS, ↓r_absI, ↓r_intI, ↓r_intB, List.length_cons, List.length_nil, List.replicate, List.set_cons_zero, List.set_cons_succ, decide_eq_true_eq, Bool.not_eq_true', decide_eq_false_iff_not, if_true, if_false, Bool.false_eq_true, Bool.true_eq_false, ite_true, ite_false, Bool.not_true, Bool.not_false, c_div, n_ten, c_pow, not_true_eq_false, not_false_eq_true, decide_true, decide_false, true_and, and_true, and_self, true_or, or_true, Int.reduceLT, Int.reduceLE, Int.reduceMul, Int.reduceAdd, Int.reduceSub, Int.reducePow, Int.reduceNeg, Int.reduceDiv, Int.reduceMod, Nat.reducePow, Int.reduceToNat, Int.reduceEq, Int.reduceNe, Nat.reduceLT, Nat.reduceLeDiff, Nat.reduceAdd, ↓x_whole, ↓r_repS, ↓r_repS, ↓r_repS, ↓r_repS, ↓r_repS, ↓r_repS, ↓x_zipS, ↓r_repS, ↓r_repS, ↓r_repS, ↓r_repS, ↓r_repS])
/-! ## the law's lines -/
def Asc (l : Ln) : Prop := ∀ c ∈ l, c < 128 ∧ c ≠ 10
theorem Asc.app {a b : Ln} (h : Asc a) (g : Asc b) : Asc (a ++ b) := fun c m => (List.mem_append.mp m).elim (h c) (g c)
theorem Asc.take {a : Ln} {n : Nat} (h : Asc a) : Asc (a.take n) := fun c m => h c (List.mem_of_mem_take m)
theorem Asc.drop {a : Ln} {n : Nat} (h : Asc a) : Asc (a.drop n) := fun c m => h c (List.mem_of_mem_drop m)
theorem Asc.cut {a : Ln} {lo hi : Option Int} (h : Asc a) : Asc (cutL a lo hi) := fun c m => by
  unfold cutL at m
  exact h c (List.mem_of_mem_drop (List.mem_of_mem_take m))
theorem cutL_le {l : List Nat} {lo hi : Option Int} : (cutL l lo hi).length ≤ l.length := by
  unfold cutL
  rw [List.length_take, List.length_drop]
  omega
theorem let_asc {c : Nat} (h : isLet c = true) : c < 128 ∧ c ≠ 10 := by
  have := of_decide_eq_true h
  omega
theorem num_asc10 {n : Int} : Asc (figL n) := fun c m => by
  unfold figL at m
  rcases List.mem_append.mp m with m | m
  · split at m
    · rw [List.mem_singleton.mp m]
      decide
    · exact (List.not_mem_nil m).elim
  · have := TL.numL_digits n.natAbs c m
    omega
theorem joinL_mem {sep : List Nat} {c : Nat} : ∀ {ps : List Ln}, c ∈ TL.joinL sep ps → c ∈ sep ∨ ∃ p ∈ ps, c ∈ p
  | [], h => (List.not_mem_nil h).elim
  | [p], h => .inr ⟨p, List.mem_cons_self, h⟩
  | p :: r :: t, h => by
    have h : c ∈ p ++ (sep ++ TL.joinL sep (r :: t)) := h
    rcases List.mem_append.mp h with m | m
    · exact .inr ⟨p, List.mem_cons_self, m⟩
    · rcases List.mem_append.mp m with m | m
      · exact .inl m
      · rcases joinL_mem (ps := r :: t) m with m | ⟨q, mq, mc⟩
        · exact .inl m
        · exact .inr ⟨q, List.mem_cons_of_mem _ mq, mc⟩
theorem joinL_le {sep : List Nat} : ∀ {ps : List Ln}, (TL.joinL sep ps).length ≤ (ps.map List.length).sum + ps.length * sep.length
  | [] => Nat.zero_le _
  | [p] => by
    show p.length ≤ _
    rw [List.map_cons, List.sum_cons]
    omega
  | p :: r :: t => by
    have h := joinL_le (sep := sep) (ps := r :: t)
    show (p ++ (sep ++ TL.joinL sep (r :: t))).length ≤ _
    rw [List.length_append, List.length_append, List.map_cons, List.sum_cons, List.length_cons, Nat.succ_mul]
    omega
theorem menu_all {xs : List V} {i : Int} {P : V → Prop} (h0 : 0 ≤ i) (h1 : i < xs.length) (k : ∀ v ∈ xs, P v) : ∃ v, atI xs i = some v ∧ P v := by
  have il : i.toNat < xs.length := by omega
  exact ⟨xs[i.toNat], at_pos h0 (List.getElem?_eq_getElem il), k _ (List.getElem_mem il)⟩
theorem mod_lt {a : Int} {n : Int} (h : 0 < n) : 0 ≤ a % n ∧ a % n < n := ⟨Int.emod_nonneg a (by omega), Int.emod_lt_of_pos a h⟩
abbrev lets : Ln := [97, 98, 99, 100, 101, 102, 103, 104, 105, 106, 107, 108, 109, 110, 111, 112, 113, 114, 115, 116, 117, 118, 119, 120, 121, 122]
theorem lets_lit : ("abcdefghijklmnopqrstuvwxyz" : Str) = Sg lets := by decide +kernel
theorem r_ixLet {K : PySem.W.Frag} {H : Hp} {Q : VK} {i : Int} (h0 : 0 ≤ i) (h1 : i < 26) (q : ∀ c, isLet c = true → Q (.str (Sg [c])) H) : rIx K (.str "abcdefghijklmnopqrstuvwxyz") (.int i) H Q := by
  rw [lets_lit]
  obtain ⟨k, rfl⟩ := Int.eq_ofNat_of_zero_le h0
  have hk : k < lets.length := by show k < 26; omega
  refine r_ixStr (i := k) (c := lets[k]) (by rw [sizeLine_eq]; decide) (List.getElem?_eq_getElem hk) (q _ ?_)
  have al : lets.all isLet = true := by decide
  exact List.all_eq_true.mp al _ (List.getElem_mem hk)
theorem repL_asc {l : Ln} (h : Asc l) : ∀ {n : Nat}, Asc (repL l n)
  | 0 => fun c m => (List.not_mem_nil m).elim
  | n + 1 => h.app (repL_asc h (n := n))
theorem fig1 {n : Int} (h0 : 0 ≤ n) (h : n < 10) : (figL n).length ≤ 1 := by
  unfold figL
  rw [if_neg (by omega), List.nil_append]
  exact TL.numL_len (n := n.natAbs) (k := 1) (by decide) (by omega)
/-- a row of some short texts -/
def TxR (H : Hp) (p : Addr) : Prop := ∃ ps : List Ln, H p = some (.lst (SgL ps)) ∧ ps.length ≤ 4 ∧ ∀ x ∈ ps, x.length ≤ 170 ∧ Asc x
def sp_name28 (_ : PySem.W.Frag) : Sp := fun vs H Q _ => ∃ c k, vs = [.int c, .int k] ∧ ∀ l H', Same H H' → l.length ≤ 20 → Asc l → Q (.str (Sg l)) H'
def sp_number28 (_ : PySem.W.Frag) : Sp := fun vs H Q _ => ∃ c, vs = [.int c] ∧ ∀ l, l.length ≤ 170 → Asc l → Q (.str (Sg l)) H
def sp_row28 (_ : PySem.W.Frag) : Sp := fun vs H Q _ => ∃ b c, vs = [.int b, .int c] ∧ ∀ l H', Same H H' → l.length ≤ 700 → Asc l → Q (.str (Sg l)) H'
section
variable {P : Program} {w : World} {K : PySem.W.Frag} {mg : Str → Option Value} {base : Heap}
theorem f__law_name (T : Tx K mg) : Fn P w K mg base 1 "_law_name" ["_law_cell", "_law_k"] (sp_name28 K) := by
  refine T.mkFn 13 27 (d := d__law_name) (N := ["_law_cell", "_law_k", "_law_letters", "_law_size", "_law_at_here", "_law_turn", "_law_rest", "_law_j"]) (k := 0) rfl rfl rfl rfl rfl sc__law_name (fun _ _ _ _ _ _ us hl => match us, hl with | [_, _], _ => rfl) (fun vs H Q E h => ?len) (fun cdv A outer s H vs Q E hr h => ⟨_,
      (pss_cons (ps_set (i := 2) sc__law_name.nd rfl (Or.inr rfl) pe_str)
        (pss_cons (ps_set (i := 3) sc__law_name.nd rfl (Or.inl rfl) (pe_op op_mod (pv 0) pe_int))
        (pss_cut (ps_if (PW.pt (pw_and (pt_cmpR op_gt (pv 1) pe_int (nomark _)) (pw_and1 (pt_cmpR (op_eqK (K := K) rfl hr.units) (pv 3) pe_int (nomark _))))) (pss_one (ps_set (i := 3) sc__law_name.nd rfl (Or.inl rfl) pe_int)) pss_nil)
        (pss_cons (ps_set (i := 4) sc__law_name.nd rfl (Or.inl rfl) (pe_op op_mod (pe_op op_fdiv (pv 0) pe_int) (pe_op op_gAdd (pv 3) pe_int)))
        (pss_cons (ps_set (i := 5) sc__law_name.nd rfl (Or.inr rfl) (pe_op op_fdiv (pv 0) pe_int))
        (pss_cons (ps_set (i := 6) sc__law_name.nd rfl (Or.inl rfl) (pe_bm PySem.F.plainAttrs_str PySem.F.slot_str_join PySem.F.type_str_join (mt_joinK (K := K) rfl) pe_str (pa_cons (pe_lc (own := [("_law_j", 7)]) (g := gName 7) rfl sc__law_name.nd (pi_range1 rfl (T.free 51) (pa_cons (pv 3) pa_nil)) (blkOk_by (own := [("_law_j", 7)]) (N := ["_law_cell", "_law_k", "_law_letters", "_law_size", "_law_at_here", "_law_turn", "_law_rest", "_law_j"]) (sc := defScope s__law_name) (by decide +kernel)) (fun _ _ _ _ _ => (pg_name (i := 7) sc__law_name.nd rfl (Or.inl rfl))) (fun _ _ _ _ _ => pts_nil) (fun _ _ _ _ _ => (pe_ix (ix_seqK (K := K) rfl) (pv 2) (pe_op op_mod (pe_op op_gAdd (pe_op op_gAdd (pe_op op_fdiv (pv 5) pe_int) (pe_op op_gMul pe_int (pv 7))) (pe_op op_fdiv (pv 1) pe_int)) pe_int) (fun _ _ => rfl)))) pa_nil)))
        (pss_one (ps_ret (pe_op op_gAdd (pe_op op_gAdd (pe_slice sl_str (pv 6) po_none (po_some (pv 4))) (pe_ix (ix_seqK (K := K) rfl) (pv 2) (pe_op op_mod (pe_op op_gAdd (pv 5) (pv 1)) pe_int) (fun _ _ => rfl))) (pe_slice sl_str (pv 6) (po_some (pv 4)) po_none)))))))))), ?rd⟩)
  case len => obtain ⟨_, _, rfl, _⟩ := h; rfl
  case rd =>
    obtain ⟨c, k, rfl, q⟩ := h
    have sz : 10000000 ≤ sizeLine := by rw [sizeLine_eq]; omega
    walk_at "wt"
    have m8 := mod_lt (a := c) (n := 8) (by decide)
    refine ⟨fun σ' H' => H' = H ∧ ∃ s : Nat, s < 8 ∧ σ' = [some (.int c), some (.int k), some (.str "abcdefghijklmnopqrstuvwxyz"), some (.int (s : Int)), none, none, none, none], ?_, ?_⟩
    · have e8 : c % 8 = (((c % 8).toNat : Nat) : Int) := (Int.toNat_of_nonneg m8.1).symm
      split
      · split
        · exact ⟨rfl, 1, by decide, rfl⟩
        · exact ⟨rfl, (c % 8).toNat, by omega, by rw [← e8]⟩
      · exact ⟨rfl, (c % 8).toNat, by omega, by rw [← e8]⟩
    rintro σ' H' ⟨rfl, s, hs, rfl⟩
    walk_at "wt"
    refine ⟨by omega, rfl, by omega, by omega, ?_⟩
    rw [Int.toNat_natCast]
    refine fun D nD => ?_
    refine lc_it walk_range (fun i Hx => ∃ ps : List Ln, Same H' Hx ∧ Hx D = some (.lst (SgL ps)) ∧ ps.length = i ∧ ∀ p ∈ ps, p.length = 1 ∧ Asc p) ⟨[], same_new nD, upd_same, rfl, fun p m => (List.not_mem_nil m).elim⟩ (fun _ _ _ _ => trivial) (fun i x Hx Hy hi e y => ?_) fun Hx e => ?_
    · obtain ⟨ps, sx, hD, pl, pp⟩ := e
      obtain ⟨rfl, rfl⟩ := y
      walk_at "wt"
      have m26 := mod_lt (a := c / 72 / 26 + 5 * (0 + (i : Int)) + k / 26) (n := 26) (by decide)
      refine r_ixLet m26.1 m26.2 fun c hc => ?_
      refine ⟨_, hD, by rw [SgL_len]; omega, ps ++ [[c]], fun b x g => (upd_ne (ne_of_none g nD)).trans (sx _ _ g), ?_, by rw [List.length_append, pl]; rfl, fun p m => ?_⟩
      · rw [upd_same]
        unfold SgL
        rw [List.map_append]
        rfl
      · rcases List.mem_append.mp m with m | m
        · exact pp p m
        · rw [List.mem_singleton.mp m]
          exact ⟨rfl, fun x mx => by rw [List.mem_singleton.mp mx]; exact let_asc hc⟩
    obtain ⟨ps, sx, hD, pl, pp⟩ := e
    rw [← bodyP_lit.2.1]
    have sm := sumlen_le (B := 1) (ps := ps) fun p m => by rw [(pp p m).1]; exact Nat.le_refl _
    refine r_join (sep := []) (.of hD) (by show _ + ps.length * 0 ≤ _; omega) ?_
    have jl := joinL_le (sep := []) (ps := ps)
    have jl : (TL.joinL [] ps).length ≤ (ps.map List.length).sum + ps.length * 0 := jl
    have ja : Asc (TL.joinL [] ps) := fun x m => by
      rcases joinL_mem m with m | ⟨p, mp, m⟩
      · exact (List.not_mem_nil m).elim
      · exact (pp p mp).2 x m
    generalize TL.joinL [] ps = z at jl ja ⊢
    have i1 := mod_lt (a := c / 72 + k) (n := 26) (by decide)
    refine r_slStr (by omega) (r_ixLet i1.1 i1.2 fun d hd => ?_)
    have l1 := cutL_le (l := z) (lo := none) (hi := some (c / 8 % (s + 1)))
    have l2 := cutL_le (l := z) (lo := some (c / 8 % (s + 1))) (hi := none)
    walk_at "wt"
    rw [Sg_add]
    refine ⟨by rw [Sg_len, Sg_len]; show _ + 1 ≤ _; omega, r_slStr (by omega) ?_⟩
    walk_at "wt"
    rw [Sg_add]
    refine ⟨by rw [Sg_len, Sg_len, List.length_append]; show _ + 1 + _ ≤ _; omega, q _ _ sx (by rw [List.length_append, List.length_append]; show _ + 1 + _ ≤ _; omega) ((ja.cut.app fun x mx => by rw [List.mem_singleton.mp mx]; exact let_asc hd).app ja.cut)⟩
theorem f__law_number (T : Tx K mg) : Fn P w K mg base 1 "_law_number" ["_law_cell"] (sp_number28 K) := by
  refine T.mkFn 14 28 (d := d__law_number) (N := ["_law_cell", "_law_far"]) (k := 0) rfl rfl rfl rfl rfl sc__law_number (fun _ _ _ _ _ _ us hl => match us, hl with | [_], _ => rfl) (fun vs H Q E h => ?len) (fun cdv A outer s H vs Q E hr h => ⟨_,
      (pss_cons (ps_if (pt_cmpR (op_eqK (K := K) rfl hr.units) (pe_op op_mod (pv 0) pe_int) pe_int (nomark _)) (pss_cons (ps_set (i := 1) sc__law_number.nd rfl (Or.inl rfl) (pe_menu (pa_cons pe_int (pa_cons pe_int (pa_cons pe_int (pa_cons pe_int (pa_cons pe_int (pa_cons pe_int (pa_cons pe_int (pa_cons pe_int (pa_cons pe_int pa_nil))))))))) (pe_op op_mod (pe_op op_fdiv (pv 0) pe_int) pe_int) (fun _ _ => rfl)))
        (pss_one (ps_ret (pe_op op_gAdd (pe_op op_gAdd (pe_menu (pa_cons pe_str (pa_cons pe_str pa_nil)) (pe_op op_mod (pe_op op_fdiv (pv 0) pe_int) pe_int) (fun _ _ => rfl)) (pe_callTy call_gStrI (by rfl) (T.free 55) (by decide +kernel) (pa_cons (pe_op op_gAdd pe_int (pe_op op_mod (pe_op op_fdiv (pv 0) pe_int) pe_int)) pa_nil))) (pe_op op_gRepS (pe_callTy call_gStrI (by rfl) (T.free 55) (by decide +kernel) (pa_cons (pe_op op_mod (pe_op op_fdiv (pv 0) pe_int) pe_int) pa_nil)) (pv 1)))))) pss_nil)
        (pss_one (ps_ret (pe_callTy call_gStrI (by rfl) (T.free 55) (by decide +kernel) (pa_cons (pe_op op_sub (pe_op op_mod (pe_op op_fdiv (pv 0) pe_int) pe_int) pe_int) pa_nil))))), ?rd⟩)
  case len => obtain ⟨_, rfl, _⟩ := h; rfl
  case rd =>
    obtain ⟨c, rfl, q⟩ := h
    have sz : 10000000 ≤ sizeLine := by rw [sizeLine_eq]; omega
    walk_at "wt"
    have small : ∀ n : Int, n.natAbs < 1000 → n.natAbs.log2 < 1920 ∧ (figL n).length ≤ 101 := fun n h => ⟨fig_log (Nat.lt_of_lt_of_le h (by decide +kernel)), figL_len (Nat.lt_of_lt_of_le h (by decide +kernel))⟩
    split
    · have a1 := mod_lt (a := c / 90) (n := 9) (by decide)
      have a2 := mod_lt (a := c / 5) (n := 2) (by decide)
      have a3 := mod_lt (a := c / 10) (n := 9) (by decide)
      have a4 := mod_lt (a := c / 810) (n := 10) (by decide)
      refine ⟨by omega, menu_all a1.1 a1.2 fun v mv => ⟨by omega, menu_all a2.1 a2.2 fun z mz => ?_⟩⟩
      obtain ⟨f, hf, rfl⟩ : ∃ f : Nat, f ≤ 60 ∧ v = .int (f : Int) := by
        simp only [List.mem_cons, List.not_mem_nil, or_false] at mv
        rcases mv with rfl | rfl | rfl | rfl | rfl | rfl | rfl | rfl | rfl
        · exact ⟨1, by decide, rfl⟩
        · exact ⟨2, by decide, rfl⟩
        · exact ⟨8, by decide, rfl⟩
        · exact ⟨9, by decide, rfl⟩
        · exact ⟨30, by decide, rfl⟩
        · exact ⟨58, by decide, rfl⟩
        · exact ⟨59, by decide, rfl⟩
        · exact ⟨59, by decide, rfl⟩
        · exact ⟨60, by decide, rfl⟩
      obtain ⟨s, ls, as, rfl⟩ : ∃ s : Ln, s.length ≤ 1 ∧ Asc s ∧ z = .str (Sg s) := by
        simp only [List.mem_cons, List.not_mem_nil, or_false] at mz
        rcases mz with rfl | rfl
        · exact ⟨[], by decide, (fun c m => (List.not_mem_nil m).elim), by rw [bodyP_lit.2.1]⟩
        · exact ⟨[45], by decide, (fun c m => by rw [List.mem_singleton.mp m]; decide), by rw [bodyP_lit.1]⟩
      obtain ⟨b1, b2⟩ := small (1 + c / 10 % 9) (by omega)
      obtain ⟨b3, b4⟩ := small (c / 810 % 10) (by omega)
      refine r_strI b1 ?_
      rw [str_int]
      walk_at "wt"
      refine ⟨by rw [Sg_len, Sg_len]; omega, r_strI b3 ?_⟩
      rw [str_int, r_repS]
      refine ⟨by omega, by omega, by rw [Sg_len]; omega, ?_⟩
      have rl := repL_len (l := figL (c / 810 % 10)) (n := (f : Int).toNat)
      have ra := repL_asc (l := figL (c / 810 % 10)) num_asc10 (n := (f : Int).toNat)
      rw [Int.toNat_natCast] at rl ra ⊢
      have rl2 : f * (figL (c / 810 % 10)).length ≤ f * 1 := Nat.mul_le_mul_left _ (fig1 (by omega) (by omega))
      rw [Sg_add]
      walk_at "wt"
      rw [Sg_add]
      exact ⟨by rw [Sg_len, Sg_len, List.length_append]; omega, q _ (by rw [List.length_append, List.length_append]; omega) ((as.app num_asc10).app ra)⟩
    · have a1 := mod_lt (a := c / 5) (n := 12) (by decide)
      obtain ⟨b1, b2⟩ := small (c / 5 % 12 - 2) (by omega)
      refine r_strI b1 ?_
      rw [str_int]
      exact q _ (by omega) num_asc10
theorem f__law_row (T : Tx K mg) : Fn P w K mg base 2 "_law_row" ["_law_base", "_law_cell"] (sp_row28 K) := by
  have c__law_name := f__law_name (P := P) (w := w) (base := base) T
  have c__law_number := f__law_number (P := P) (w := w) (base := base) T
  refine T.mkFn 15 29 (d := d__law_row) (N := ["_law_base", "_law_cell", "_law_one", "_law_other", "_law_number_here", "_law_words"]) (k := 1) rfl rfl rfl rfl rfl sc__law_row (fun _ _ _ _ _ _ us hl => match us, hl with | [_, _], _ => rfl) (fun vs H Q E h => ?len) (fun cdv A outer s H vs Q E hr h => ⟨_,
      (pss_cons (ps_set (i := 2) sc__law_row.nd rfl (Or.inl rfl) (pe_fn (takes_of rfl rfl rfl rfl) c__law_name (hr.mono (by decide)) (by rfl) (pa_cons (pv 0) (pa_cons (pe_op op_mod (pe_op op_fdiv (pv 1) pe_int) pe_int) pa_nil))))
        (pss_cons (ps_set (i := 3) sc__law_row.nd rfl (Or.inl rfl) (pe_fn (takes_of rfl rfl rfl rfl) c__law_name (hr.mono (by decide)) (by rfl) (pa_cons (pv 0) (pa_cons (pe_op op_mod (pe_op op_fdiv (pv 1) pe_int) pe_int) pa_nil))))
        (pss_cons (ps_set (i := 4) sc__law_row.nd rfl (Or.inl rfl) (pe_fn (takes_of rfl rfl rfl rfl) c__law_number (hr.mono (by decide)) (by rfl) (pa_cons (pe_op op_fdiv (pv 1) pe_int) pa_nil)))
        (pss_cons (ps_set (i := 5) sc__law_row.nd rfl (Or.inl rfl) (pe_lst (pa_cons (pe_lst (pa_cons pe_str (pa_cons (pv 2) (pa_cons (pv 4) pa_nil)))) (pa_cons (pe_lst (pa_cons pe_str (pa_cons (pv 2) (pa_cons (pv 4) pa_nil)))) (pa_cons (pe_lst (pa_cons pe_str (pa_cons (pv 2) (pa_cons (pv 3) pa_nil)))) (pa_cons (pe_lst (pa_cons pe_str (pa_cons (pv 2) pa_nil))) pa_nil))))))
        (pss_cons (ps_set (i := 5) sc__law_row.nd rfl (Or.inl rfl) (pe_op op_gAdd (pv 5) (pe_lst (pa_cons (pe_lst (pa_cons pe_str (pa_cons (pv 2) (pa_cons (pv 3) (pa_cons (pv 4) pa_nil))))) (pa_cons (pe_lst (pa_cons pe_str (pa_cons (pv 2) (pa_cons (pv 4) (pa_cons (pv 3) pa_nil))))) (pa_cons (pe_lst (pa_cons pe_str (pa_cons (pv 2) pa_nil))) pa_nil))))))
        (pss_cons (ps_set (i := 5) sc__law_row.nd rfl (Or.inl rfl) (pe_op op_gAdd (pv 5) (pe_lst (pa_cons (pe_lst (pa_cons pe_str (pa_cons (pe_callTy call_gStrI (by rfl) (T.free 55) (by decide +kernel) (pa_cons (pe_op op_mod (pe_op op_fdiv (pv 1) pe_int) pe_int) pa_nil)) pa_nil))) (pa_cons (pe_lst (pa_cons pe_str (pa_cons (pv 2) pa_nil))) pa_nil)))))
        (pss_one (ps_ret (pe_bm PySem.F.plainAttrs_str PySem.F.slot_str_join PySem.F.type_str_join (mt_joinK (K := K) rfl) pe_str (pa_cons (pe_ix (ix_seqK (K := K) rfl) (pv 5) (pe_op op_mod (pv 1) pe_int) (fun _ _ => rfl)) pa_nil)))))))))), ?rd⟩)
  case len => obtain ⟨_, _, rfl, _⟩ := h; rfl
  case rd =>
    obtain ⟨b, c, rfl, q⟩ := h
    have sz : 10000000 ≤ sizeLine := by rw [sizeLine_eq]; omega
    walk_at "wt"
    refine ⟨b, _, rfl, fun l1 H1 s1 h1 g1 => ⟨b, _, rfl, fun l2 H2 s2 h2 g2 => ⟨_, rfl, fun l3 h3 g3 => ?_⟩⟩⟩
    dsimp only
    have s01 := s1.trans s2
    obtain ⟨z1, z2, z3, z4, z5, z6, z7, z8, z9, z10⟩ := lits
    refine ⟨by omega, fun pa npa => ?_⟩
    have sG3 := same_new (o := .lst [.str "make", .str (Sg l1), .str (Sg l3)]) npa
    have hpa : upd H2 pa (.lst [.str "make", .str (Sg l1), .str (Sg l3)]) pa = some (.lst [.str "make", .str (Sg l1), .str (Sg l3)]) := upd_same
    have s01 := s01.trans sG3
    generalize upd H2 pa (.lst [.str "make", .str (Sg l1), .str (Sg l3)]) = G3 at hpa s01 ⊢
    clear sG3
    refine ⟨by omega, fun pb npb => ?_⟩
    have sG4 := same_new (o := .lst [.str "keep", .str (Sg l1), .str (Sg l3)]) npb
    have hpb : upd G3 pb (.lst [.str "keep", .str (Sg l1), .str (Sg l3)]) pb = some (.lst [.str "keep", .str (Sg l1), .str (Sg l3)]) := upd_same
    have hpa := sG4 _ _ hpa
    have s01 := s01.trans sG4
    generalize upd G3 pb (.lst [.str "keep", .str (Sg l1), .str (Sg l3)]) = G4 at hpa hpb s01 ⊢
    clear sG4
    refine ⟨by omega, fun pc npc => ?_⟩
    have sG5 := same_new (o := .lst [.str "copy", .str (Sg l1), .str (Sg l2)]) npc
    have hpc : upd G4 pc (.lst [.str "copy", .str (Sg l1), .str (Sg l2)]) pc = some (.lst [.str "copy", .str (Sg l1), .str (Sg l2)]) := upd_same
    have hpa := sG5 _ _ hpa
    have hpb := sG5 _ _ hpb
    have s01 := s01.trans sG5
    generalize upd G4 pc (.lst [.str "copy", .str (Sg l1), .str (Sg l2)]) = G5 at hpa hpb hpc s01 ⊢
    clear sG5
    refine ⟨by omega, fun pd npd => ?_⟩
    have sG6 := same_new (o := .lst [.str "drop", .str (Sg l1)]) npd
    have hpd : upd G5 pd (.lst [.str "drop", .str (Sg l1)]) pd = some (.lst [.str "drop", .str (Sg l1)]) := upd_same
    have hpa := sG6 _ _ hpa
    have hpb := sG6 _ _ hpb
    have hpc := sG6 _ _ hpc
    have s01 := s01.trans sG6
    generalize upd G5 pd (.lst [.str "drop", .str (Sg l1)]) = G6 at hpa hpb hpc hpd s01 ⊢
    clear sG6
    refine ⟨by omega, fun pe npe => ?_⟩
    have sG7 := same_new (o := .lst [.ref pa, .ref pb, .ref pc, .ref pd]) npe
    have hpe : upd G6 pe (.lst [.ref pa, .ref pb, .ref pc, .ref pd]) pe = some (.lst [.ref pa, .ref pb, .ref pc, .ref pd]) := upd_same
    have hpa := sG7 _ _ hpa
    have hpb := sG7 _ _ hpb
    have hpc := sG7 _ _ hpc
    have hpd := sG7 _ _ hpd
    have s01 := s01.trans sG7
    generalize upd G6 pe (.lst [.ref pa, .ref pb, .ref pc, .ref pd]) = G7 at hpa hpb hpc hpd hpe s01 ⊢
    clear sG7
    refine ⟨by omega, fun pf npf => ?_⟩
    have sG8 := same_new (o := .lst [.str "get", .str (Sg l1), .str (Sg l2), .str (Sg l3)]) npf
    have hpf : upd G7 pf (.lst [.str "get", .str (Sg l1), .str (Sg l2), .str (Sg l3)]) pf = some (.lst [.str "get", .str (Sg l1), .str (Sg l2), .str (Sg l3)]) := upd_same
    have hpa := sG8 _ _ hpa
    have hpb := sG8 _ _ hpb
    have hpc := sG8 _ _ hpc
    have hpd := sG8 _ _ hpd
    have hpe := sG8 _ _ hpe
    have s01 := s01.trans sG8
    generalize upd G7 pf (.lst [.str "get", .str (Sg l1), .str (Sg l2), .str (Sg l3)]) = G8 at hpa hpb hpc hpd hpe hpf s01 ⊢
    clear sG8
    refine ⟨by omega, fun pg npg => ?_⟩
    have sG9 := same_new (o := .lst [.str "set", .str (Sg l1), .str (Sg l3), .str (Sg l2)]) npg
    have hpg : upd G8 pg (.lst [.str "set", .str (Sg l1), .str (Sg l3), .str (Sg l2)]) pg = some (.lst [.str "set", .str (Sg l1), .str (Sg l3), .str (Sg l2)]) := upd_same
    have hpa := sG9 _ _ hpa
    have hpb := sG9 _ _ hpb
    have hpc := sG9 _ _ hpc
    have hpd := sG9 _ _ hpd
    have hpe := sG9 _ _ hpe
    have hpf := sG9 _ _ hpf
    have s01 := s01.trans sG9
    generalize upd G8 pg (.lst [.str "set", .str (Sg l1), .str (Sg l3), .str (Sg l2)]) = G9 at hpa hpb hpc hpd hpe hpf hpg s01 ⊢
    clear sG9
    refine ⟨by omega, fun ph nph => ?_⟩
    have sG10 := same_new (o := .lst [.str "tell", .str (Sg l1)]) nph
    have hph : upd G9 ph (.lst [.str "tell", .str (Sg l1)]) ph = some (.lst [.str "tell", .str (Sg l1)]) := upd_same
    have hpa := sG10 _ _ hpa
    have hpb := sG10 _ _ hpb
    have hpc := sG10 _ _ hpc
    have hpd := sG10 _ _ hpd
    have hpe := sG10 _ _ hpe
    have hpf := sG10 _ _ hpf
    have hpg := sG10 _ _ hpg
    have s01 := s01.trans sG10
    generalize upd G9 ph (.lst [.str "tell", .str (Sg l1)]) = G10 at hpa hpb hpc hpd hpe hpf hpg hph s01 ⊢
    clear sG10
    refine ⟨by omega, fun pi npi => ?_⟩
    have sG11 := same_new (o := .lst [.ref pf, .ref pg, .ref ph]) npi
    have hpi : upd G10 pi (.lst [.ref pf, .ref pg, .ref ph]) pi = some (.lst [.ref pf, .ref pg, .ref ph]) := upd_same
    have hpa := sG11 _ _ hpa
    have hpb := sG11 _ _ hpb
    have hpc := sG11 _ _ hpc
    have hpd := sG11 _ _ hpd
    have hpe := sG11 _ _ hpe
    have hpf := sG11 _ _ hpf
    have hpg := sG11 _ _ hpg
    have hph := sG11 _ _ hph
    have s01 := s01.trans sG11
    generalize upd G10 pi (.lst [.ref pf, .ref pg, .ref ph]) = G11 at hpa hpb hpc hpd hpe hpf hpg hph hpi s01 ⊢
    clear sG11
    have c10 := mod_lt (a := c / 12) (n := 10) (by decide)
    have c9 := mod_lt (a := c) (n := 9) (by decide)
    have sm : ∀ n : Int, n.natAbs < 1000 → n.natAbs.log2 < 1920 ∧ (figL n).length ≤ 101 := fun n h => ⟨fig_log (Nat.lt_of_lt_of_le h (by decide +kernel)), figL_len (Nat.lt_of_lt_of_le h (by decide +kernel))⟩
    obtain ⟨b1, b2⟩ := sm (c / 12 % 10) (by omega)
    refine ⟨_, _, hpe, hpi, by show _ ≤ sizeLine; simp only [List.length_append, List.length_cons, List.length_nil]; omega, fun pj npj => ?_⟩
    have sG12 := same_new (o := .lst ([.ref pa, .ref pb, .ref pc, .ref pd] ++ [.ref pf, .ref pg, .ref ph])) npj
    have hpj : upd G11 pj (.lst ([.ref pa, .ref pb, .ref pc, .ref pd] ++ [.ref pf, .ref pg, .ref ph])) pj = some (.lst ([.ref pa, .ref pb, .ref pc, .ref pd] ++ [.ref pf, .ref pg, .ref ph])) := upd_same
    have hpa := sG12 _ _ hpa
    have hpb := sG12 _ _ hpb
    have hpc := sG12 _ _ hpc
    have hpd := sG12 _ _ hpd
    have hpe := sG12 _ _ hpe
    have hpf := sG12 _ _ hpf
    have hpg := sG12 _ _ hpg
    have hph := sG12 _ _ hph
    have hpi := sG12 _ _ hpi
    have s01 := s01.trans sG12
    generalize upd G11 pj (.lst ([.ref pa, .ref pb, .ref pc, .ref pd] ++ [.ref pf, .ref pg, .ref ph])) = G12 at hpa hpb hpc hpd hpe hpf hpg hph hpi hpj s01 ⊢
    clear sG12
    refine r_strI b1 ?_
    rw [str_int]
    have l4a : Asc (figL (c / 12 % 10)) := num_asc10
    generalize figL (c / 12 % 10) = l4 at b2 l4a ⊢
    refine ⟨by omega, fun pk npk => ?_⟩
    have sG13 := same_new (o := .lst [.str "again", .str (Sg l4)]) npk
    have hpk : upd G12 pk (.lst [.str "again", .str (Sg l4)]) pk = some (.lst [.str "again", .str (Sg l4)]) := upd_same
    have hpa := sG13 _ _ hpa
    have hpb := sG13 _ _ hpb
    have hpc := sG13 _ _ hpc
    have hpd := sG13 _ _ hpd
    have hpe := sG13 _ _ hpe
    have hpf := sG13 _ _ hpf
    have hpg := sG13 _ _ hpg
    have hph := sG13 _ _ hph
    have hpi := sG13 _ _ hpi
    have hpj := sG13 _ _ hpj
    have s01 := s01.trans sG13
    generalize upd G12 pk (.lst [.str "again", .str (Sg l4)]) = G13 at hpa hpb hpc hpd hpe hpf hpg hph hpi hpj hpk s01 ⊢
    clear sG13
    refine ⟨by omega, fun pl npl => ?_⟩
    have sG14 := same_new (o := .lst [.str "if", .str (Sg l1)]) npl
    have hpl : upd G13 pl (.lst [.str "if", .str (Sg l1)]) pl = some (.lst [.str "if", .str (Sg l1)]) := upd_same
    have hpa := sG14 _ _ hpa
    have hpb := sG14 _ _ hpb
    have hpc := sG14 _ _ hpc
    have hpd := sG14 _ _ hpd
    have hpe := sG14 _ _ hpe
    have hpf := sG14 _ _ hpf
    have hpg := sG14 _ _ hpg
    have hph := sG14 _ _ hph
    have hpi := sG14 _ _ hpi
    have hpj := sG14 _ _ hpj
    have hpk := sG14 _ _ hpk
    have s01 := s01.trans sG14
    generalize upd G13 pl (.lst [.str "if", .str (Sg l1)]) = G14 at hpa hpb hpc hpd hpe hpf hpg hph hpi hpj hpk hpl s01 ⊢
    clear sG14
    refine ⟨by omega, fun pm npm => ?_⟩
    have sG15 := same_new (o := .lst [.ref pk, .ref pl]) npm
    have hpm : upd G14 pm (.lst [.ref pk, .ref pl]) pm = some (.lst [.ref pk, .ref pl]) := upd_same
    have hpa := sG15 _ _ hpa
    have hpb := sG15 _ _ hpb
    have hpc := sG15 _ _ hpc
    have hpd := sG15 _ _ hpd
    have hpe := sG15 _ _ hpe
    have hpf := sG15 _ _ hpf
    have hpg := sG15 _ _ hpg
    have hph := sG15 _ _ hph
    have hpi := sG15 _ _ hpi
    have hpj := sG15 _ _ hpj
    have hpk := sG15 _ _ hpk
    have hpl := sG15 _ _ hpl
    have s01 := s01.trans sG15
    generalize upd G14 pm (.lst [.ref pk, .ref pl]) = G15 at hpa hpb hpc hpd hpe hpf hpg hph hpi hpj hpk hpl hpm s01 ⊢
    clear sG15
    refine ⟨_, _, hpj, hpm, by show _ ≤ sizeLine; simp only [List.length_append, List.length_cons, List.length_nil]; omega, fun pn npn => ?_⟩
    have sG16 := same_new (o := .lst (([.ref pa, .ref pb, .ref pc, .ref pd] ++ [.ref pf, .ref pg, .ref ph]) ++ [.ref pk, .ref pl])) npn
    have hpn : upd G15 pn (.lst (([.ref pa, .ref pb, .ref pc, .ref pd] ++ [.ref pf, .ref pg, .ref ph]) ++ [.ref pk, .ref pl])) pn = some (.lst (([.ref pa, .ref pb, .ref pc, .ref pd] ++ [.ref pf, .ref pg, .ref ph]) ++ [.ref pk, .ref pl])) := upd_same
    have hpa := sG16 _ _ hpa
    have hpb := sG16 _ _ hpb
    have hpc := sG16 _ _ hpc
    have hpd := sG16 _ _ hpd
    have hpe := sG16 _ _ hpe
    have hpf := sG16 _ _ hpf
    have hpg := sG16 _ _ hpg
    have hph := sG16 _ _ hph
    have hpi := sG16 _ _ hpi
    have hpj := sG16 _ _ hpj
    have hpk := sG16 _ _ hpk
    have hpl := sG16 _ _ hpl
    have hpm := sG16 _ _ hpm
    have s01 := s01.trans sG16
    generalize upd G15 pn (.lst (([.ref pa, .ref pb, .ref pc, .ref pd] ++ [.ref pf, .ref pg, .ref ph]) ++ [.ref pk, .ref pl])) = G16 at hpa hpb hpc hpd hpe hpf hpg hph hpi hpj hpk hpl hpm hpn s01 ⊢
    clear sG16
    have tpa : TxR G16 pa := ⟨[wMake, l1, l3], by rw [hpa, z1]; rfl, by simp only [List.length_cons, List.length_nil]; omega, fun x m => by
      simp only [List.mem_cons, List.not_mem_nil, or_false] at m
      rcases m with rfl | rfl | rfl
      · exact ⟨by decide, by unfold Asc; decide⟩
      · exact ⟨by omega, by assumption⟩
      · exact ⟨by omega, by assumption⟩⟩
    have tpb : TxR G16 pb := ⟨[wKeep, l1, l3], by rw [hpb, z2]; rfl, by simp only [List.length_cons, List.length_nil]; omega, fun x m => by
      simp only [List.mem_cons, List.not_mem_nil, or_false] at m
      rcases m with rfl | rfl | rfl
      · exact ⟨by decide, by unfold Asc; decide⟩
      · exact ⟨by omega, by assumption⟩
      · exact ⟨by omega, by assumption⟩⟩
    have tpc : TxR G16 pc := ⟨[wCopy, l1, l2], by rw [hpc, z3]; rfl, by simp only [List.length_cons, List.length_nil]; omega, fun x m => by
      simp only [List.mem_cons, List.not_mem_nil, or_false] at m
      rcases m with rfl | rfl | rfl
      · exact ⟨by decide, by unfold Asc; decide⟩
      · exact ⟨by omega, by assumption⟩
      · exact ⟨by omega, by assumption⟩⟩
    have tpd : TxR G16 pd := ⟨[wDrop, l1], by rw [hpd, z4]; rfl, by simp only [List.length_cons, List.length_nil]; omega, fun x m => by
      simp only [List.mem_cons, List.not_mem_nil, or_false] at m
      rcases m with rfl | rfl
      · exact ⟨by decide, by unfold Asc; decide⟩
      · exact ⟨by omega, by assumption⟩⟩
    have tpf : TxR G16 pf := ⟨[wGet, l1, l2, l3], by rw [hpf, z5]; rfl, by simp only [List.length_cons, List.length_nil]; omega, fun x m => by
      simp only [List.mem_cons, List.not_mem_nil, or_false] at m
      rcases m with rfl | rfl | rfl | rfl
      · exact ⟨by decide, by unfold Asc; decide⟩
      · exact ⟨by omega, by assumption⟩
      · exact ⟨by omega, by assumption⟩
      · exact ⟨by omega, by assumption⟩⟩
    have tpg : TxR G16 pg := ⟨[wSet, l1, l3, l2], by rw [hpg, z6]; rfl, by simp only [List.length_cons, List.length_nil]; omega, fun x m => by
      simp only [List.mem_cons, List.not_mem_nil, or_false] at m
      rcases m with rfl | rfl | rfl | rfl
      · exact ⟨by decide, by unfold Asc; decide⟩
      · exact ⟨by omega, by assumption⟩
      · exact ⟨by omega, by assumption⟩
      · exact ⟨by omega, by assumption⟩⟩
    have tph : TxR G16 ph := ⟨[wTell, l1], by rw [hph, z7]; rfl, by simp only [List.length_cons, List.length_nil]; omega, fun x m => by
      simp only [List.mem_cons, List.not_mem_nil, or_false] at m
      rcases m with rfl | rfl
      · exact ⟨by decide, by unfold Asc; decide⟩
      · exact ⟨by omega, by assumption⟩⟩
    have tpk : TxR G16 pk := ⟨[wAgain, l4], by rw [hpk, z8]; rfl, by simp only [List.length_cons, List.length_nil]; omega, fun x m => by
      simp only [List.mem_cons, List.not_mem_nil, or_false] at m
      rcases m with rfl | rfl
      · exact ⟨by decide, by unfold Asc; decide⟩
      · exact ⟨by omega, by assumption⟩⟩
    have tpl : TxR G16 pl := ⟨[wIf, l1], by rw [hpl, z9]; rfl, by simp only [List.length_cons, List.length_nil]; omega, fun x m => by
      simp only [List.mem_cons, List.not_mem_nil, or_false] at m
      rcases m with rfl | rfl
      · exact ⟨by decide, by unfold Asc; decide⟩
      · exact ⟨by omega, by assumption⟩⟩
    replace hpn : G16 pn = some (.lst [.ref pa, .ref pb, .ref pc, .ref pd, .ref pf, .ref pg, .ref ph, .ref pk, .ref pl]) := hpn
    refine ⟨rfl, ?_⟩
    obtain ⟨k, ek⟩ := Int.eq_ofNat_of_zero_le c9.1
    rw [ek] at c9 ⊢
    have k9 : k < 9 := by omega
    have pick : ∀ v, [V.ref pa, .ref pb, .ref pc, .ref pd, .ref pf, .ref pg, .ref ph, .ref pk, .ref pl][k]? = some v → ∃ p, v = .ref p ∧ TxR G16 p := fun v e => by
      have m := List.mem_of_getElem? e
      simp only [List.mem_cons, List.not_mem_nil, or_false] at m
      rcases m with rfl | rfl | rfl | rfl | rfl | rfl | rfl | rfl | rfl <;> exact ⟨_, rfl, by assumption⟩
    obtain ⟨p, ep, ps, hp, pl, pp⟩ := pick _ (List.getElem?_eq_getElem k9)
    refine r_ixL (i := k) hpn (by rw [List.getElem?_eq_getElem k9, ep]) ?_
    rw [blank_lit]
    have sl := sumlen_le (B := 170) (ps := ps) fun x m => (pp x m).1
    have jl := joinL_le (sep := [32]) (ps := ps)
    have jl : (TL.joinL [32] ps).length ≤ (ps.map List.length).sum + ps.length * 1 := jl
    refine r_join (sep := [32]) (.of hp) (by show _ + ps.length * 1 ≤ _; omega) (q _ _ s01 (by omega) fun x m => ?_)
    rcases joinL_mem m with m | ⟨y, my, m⟩
    · rw [List.mem_singleton.mp m]
      decide
    · exact (pp y my).2 x m
end

local macro_rules | `(tactic| walk_at "wt") => `(tactic| try simp only [↓x_var0, ↓x_varS, ↓x_c, ↓x_op, ↓x_un, ↓x_cb, ↓x_nil, ↓x_cons, ↓x_test, ↓x_b, ↓x_ex, ↓x_and, ↓x_or, ↓x_not, ↓x_andV, ↓x_orV, ↓x_notV, ↓x_tif, ↓x_chain, ↓x_menu, ↓x_menuI, ↓x_lst, ↓x_tup, ↓x_dnew, ↓x_callW, ↓x_callN, ↓x_seq, ↓x_next, ↓x_ret, ↓x_retN, ↓x_drop, ↓x_ifS, ↓x_asg, ↓x_name, ↓x_raise, ↓x_fld, ↓x_setF, ↓x_meth, ↓x_make, ↓x_sub, ↓r_min, ↓r_max, ↓x_yes, ↓x_for, ↓x_lock, ↓x_keys, ↓x_cut, ↓x_lc, ↓x_rng1, ↓x_rng2, ↓x_lst1, ↓x_itup, ↓x_rng3, ↓x_three, ↓x_lstg, ↓x_tupg, ↓x_adrS, ↓x_one, ↓x_two, ↓x_adr, ↓x_sl, ↓x_np, ↓x_pt, ↓x_int, ↓x_bm, ↓x_bm0, ↓x_consg, ↓x_nilg, ↓x_dget2, ↓x_dget1, ↓x_dgetN, ↓x_dget, ↓x_din, ↓x_dni, ↓x_dput, ↓x_dpop2, ↓r_isB, ↓r_notB, ↓x_enum, ↓x_zip, ↓x_str, ↓x_strE, ↓r_inS, ↓r_ninS, wipe, List.map_cons, List.map_nil, ↓x_isT, ↓r_isiII, ↓r_isiBB, ↓r_isiIB, ↓r_isiSS, ↓r_neNS, ↓r_neSN, ↓r_neNN, ↓r_eqNS, ↓r_eqSN, ↓r_eqNN, ↓r_eqIS, ↓r_neIS, ↓r_neSI, ↓r_neBS, ↓r_eqBB, ↓r_neBB, ↓x_start, ↓x_K, ↓x_start0, ↓r_i0, ↓r_i, ↓r_u, ↓r_addI, ↓r_addS, ↓r_mulI, ↓r_mulS, ↓r_eqI, ↓r_neI, ↓r_eqS, ↓r_neS, ↓r_absI, ↓r_intI, ↓r_intB, List.length_cons, List.length_nil, List.replicate, List.set_cons_zero, List.set_cons_succ, decide_eq_true_eq, Bool.not_eq_true', decide_eq_false_iff_not, if_true, if_false, Bool.false_eq_true, Bool.true_eq_false, ite_true, ite_false, Bool.not_true, Bool.not_false, c_div, n_ten, c_pow, not_true_eq_false, not_false_eq_true, decide_true, decide_false, true_and, and_true, and_self, true_or, or_true, Int.reduceLT, Int.reduceLE, Int.reduceMul, Int.reduceAdd, Int.reduceSub, Int.reducePow, Int.reduceNeg, Int.reduceDiv, Int.reduceMod, Nat.reducePow, Int.reduceToNat, Int.reduceEq, Int.reduceNe, Nat.reduceLT, Nat.reduceLeDiff, Nat.reduceAdd, ↓x_whole, ↓r_repS, ↓r_repS, ↓r_repS, ↓r_repS, ↓r_repS, ↓r_repS, ↓x_zipS, ↓r_repS, ↓r_repS, ↓r_repS, ↓r_repS, ↓r_repS, ↓r_repS])
def OkL (B : Nat) (ls : List Ln) : Prop := ∀ l ∈ ls, l.length ≤ B ∧ Asc l
theorem OkL.app {B : Nat} {a b : List Ln} (h : OkL B a) (g : OkL B b) : OkL B (a ++ b) := fun l m => (List.mem_append.mp m).elim (h l) (g l)
theorem OkL.mono {B B' : Nat} {a : List Ln} (h : OkL B a) (g : B ≤ B') : OkL B' a := fun l m => ⟨Nat.le_trans (h l m).1 g, (h l m).2⟩
theorem OkL.nil {B : Nat} : OkL B [] := fun l m => (List.not_mem_nil m).elim
theorem OkL.one {B : Nat} {l : Ln} (h : l.length ≤ B) (g : Asc l) : OkL B [l] := fun x m => by rw [List.mem_singleton.mp m]; exact ⟨h, g⟩
theorem OkL.take {B n : Nat} {a : List Ln} (h : OkL B a) : OkL B (a.take n) := fun l m => h l (List.mem_of_mem_take m)
theorem OkL.drop {B n : Nat} {a : List Ln} (h : OkL B a) : OkL B (a.drop n) := fun l m => h l (List.mem_of_mem_drop m)
theorem SgL_appN {a b : List Ln} : SgL a ++ SgL b = SgL (a ++ b) := by
  unfold SgL
  rw [List.map_append]
theorem end_asc : Asc wEnd := by unfold Asc; decide
theorem rep_end {d : Nat} : (List.replicate d [V.str "end"]).flatten = SgL (List.replicate d wEnd) := by
  rw [lits.2.2.2.2.2.2.2.2.2]
  induction d with
  | zero => rfl
  | succ d ih =>
    rw [List.replicate_succ, List.replicate_succ, List.flatten_cons, ih]
    rfl
theorem ite_dup {P Q A D : Prop} [Decidable P] [Decidable Q] (h1 : P → Q → A) (h2 : D) : if P then (if Q then A else D) else D := by
  split
  · rename_i p
    split
    · rename_i q
      exact h1 p q
    · exact h2
  · exact h2
def okT (B : Nat) : V → Bool
  | .str z => decide ((TL.tl z).length ≤ B) && (TL.tl z).all fun c => decide (c < 128 ∧ c ≠ 10)
  | _ => false
theorem okT_is {B : Nat} {v : V} (h : okT B v = true) : ∃ l, v = .str (Sg l) ∧ l.length ≤ B ∧ Asc l := by
  cases v with
  | str z =>
    unfold okT at h
    rw [Bool.and_eq_true] at h
    exact ⟨TL.tl z, by rw [← Sg_of], of_decide_eq_true h.1, fun c m => of_decide_eq_true (List.all_eq_true.mp h.2 c m)⟩
  | _ => cases h
theorem r_ixOk {K : PySem.W.Frag} {H : Hp} {Q : VK} {a : Addr} {xs : List V} {i : Int} {B : Nat} (h : H a = some (.lst xs)) (e : xs.all (okT B) = true) (h0 : 0 ≤ i) (h1 : i < xs.length) (q : ∀ l, l.length ≤ B → Asc l → Q (.str (Sg l)) H) : rIx K (.ref a) (.int i) H Q := by
  obtain ⟨k, rfl⟩ := Int.eq_ofNat_of_zero_le h0
  have hk : k < xs.length := by omega
  obtain ⟨l, el, b, al⟩ := okT_is (List.all_eq_true.mp e _ (List.getElem_mem hk))
  refine r_ixL (i := k) h (List.getElem?_eq_getElem hk) ?_
  rw [el]
  exact q l b al
def sp_some28 (K : PySem.W.Frag) : Sp := fun vs H Q _ => ∃ a, ∃ ns : List Int, ∃ m : Nat, vs = [.ref a, .int m] ∧ SqL K H a (ns.map V.int) ∧ ∀ p ls H', Same H H' → H' p = some (.lst (SgL ls)) → ls.length ≤ 50 → OkL 800 ls → Q (.ref p) H'
def sp_lines28 (K : PySem.W.Frag) : Sp := fun vs H Q _ => ∃ a, ∃ ns : List Int, vs = [.ref a] ∧ SqL K H a (ns.map V.int) ∧ ∀ p ls H', Same H H' → H' p = some (.lst (SgL ls)) → ls.length ≤ 100 → OkL 800 ls → Q (.ref p) H'
def sp_wrong28 (_ : PySem.W.Frag) : Sp := fun vs H Q _ => ∃ l c, vs = [.str (Sg l), .int c] ∧ l.length ≤ 800 ∧ Asc l ∧ ∀ p ls H', Same H H' → H' p = some (.lst (SgL ls)) → ls.length ≤ 2 → OkL (l.length + 10) ls → Q (.ref p) H'
def sp_spoilt28 (_ : PySem.W.Frag) : Sp := fun vs H Q _ => ∃ a ls c, vs = [.ref a, .int c] ∧ H a = some (.lst (SgL ls)) ∧ ls.length ≤ 100 ∧ OkL 800 ls ∧ ∀ p ls' H', Same H H' → H' p = some (.lst (SgL ls')) → ls'.length ≤ 110 → OkL 3000 ls' → Q (.ref p) H'
section
variable {P : Program} {w : World} {K : PySem.W.Frag} {mg : Str → Option Value} {base : Heap}
theorem f__law_some (T : Tx K mg) : Fn P w K mg base 3 "_law_some" ["_law_script", "_law_most"] (sp_some28 K) := by
  have c__law_at := f__law_at (P := P) (w := w) (base := base) T
  have c__law_row := f__law_row (P := P) (w := w) (base := base) T
  have c__law_name := f__law_name (P := P) (w := w) (base := base) T
  refine T.mkFn 16 30 (d := d__law_some) (N := ["_law_script", "_law_most", "_law_base", "_law_lines_here", "_law_deep", "_law_k", "_law_cell", "_law_row_here"]) (k := 2) rfl rfl rfl rfl rfl sc__law_some (fun _ _ _ _ _ _ us hl => match us, hl with | [_, _], _ => rfl) (fun vs H Q E h => ?len) (fun cdv A outer s H vs Q E hr h => ⟨_,
      (pss_cons (ps_set (i := 2) sc__law_some.nd rfl (Or.inl rfl) (pe_fn (takes_of rfl rfl rfl rfl) c__law_at (hr.mono (by decide)) (by rfl) (pa_cons (pv 0) (pa_cons pe_int pa_nil))))
        (pss_cons (ps_set (i := 3) sc__law_some.nd rfl (Or.inl rfl) (pe_lst pa_nil))
        (pss_cons (ps_set (i := 4) sc__law_some.nd rfl (Or.inl rfl) pe_int)
        (pss_cons (ps_for (passes_of rfl) rfl (pi_range1 rfl (T.free 51) (pa_cons (pe_op op_mod (pe_fn (takes_of rfl rfl rfl rfl) c__law_at (hr.mono (by decide)) (by rfl) (pa_cons (pv 0) (pa_cons pe_int pa_nil))) pe_int) pa_nil)) (pg_name (i := 5) sc__law_some.nd rfl (Or.inl rfl)) (pss_cons (ps_set (i := 6) sc__law_some.nd rfl (Or.inl rfl) (pe_op op_mod (pe_op op_gMul (pe_op op_gAdd (pe_op op_gAdd (pe_fn (takes_of rfl rfl rfl rfl) c__law_at (hr.mono (by decide)) (by rfl) (pa_cons (pv 0) (pa_cons (pe_op op_gAdd pe_int (pe_op op_mod (pv 5) pe_int)) pa_nil))) (pe_op op_gMul pe_int (pv 5))) pe_int) pe_int) pe_int))
        (pss_cons (ps_set (i := 7) sc__law_some.nd rfl (Or.inl rfl) (pe_fn (takes_of rfl rfl rfl rfl) c__law_row (hr.mono (by decide)) (by rfl) (pa_cons (pv 2) (pa_cons (pe_op op_fdiv (pv 6) pe_int) pa_nil))))
        (pss_cut (ps_if (PW.pt (pw_and (pt_cmpR (op_eqK (K := K) rfl hr.units) (pe_op op_mod (pv 6) pe_int) pe_int (nomark _)) (pw_and1 (pt_cmpR op_gt (pv 4) pe_int (nomark _))))) (pss_cons (ps_set (i := 7) sc__law_some.nd rfl (Or.inl rfl) pe_str)
        (pss_one (ps_set (i := 4) sc__law_some.nd rfl (Or.inl rfl) (pe_op op_sub (pv 4) pe_int)))) (pss_one (ps_if (PW.pt (pw_or (pt_cmpR (op_eqK (K := K) rfl hr.units) (pe_slice sl_str (pv 7) po_none (po_some pe_int)) pe_str (nomark _)) (pw_or1 (pt_cmpR (op_eqK (K := K) rfl hr.units) (pe_slice sl_str (pv 7) po_none (po_some pe_int)) pe_str (nomark _))))) (pss_one (ps_if (pt_cmpR (op_eqK (K := K) rfl hr.units) (pv 4) (pv 1) (nomark _)) (pss_one (ps_set (i := 7) sc__law_some.nd rfl (Or.inl rfl) (pe_op op_gAdd pe_str (pe_fn (takes_of rfl rfl rfl rfl) c__law_name (hr.mono (by decide)) (by rfl) (pa_cons (pv 2) (pa_cons pe_int pa_nil)))))) (pss_one (ps_set (i := 4) sc__law_some.nd rfl (Or.inl rfl) (pe_op op_gAdd (pv 4) pe_int))))) pss_nil)))
        (pss_one (ps_expr (pe_bm PySem.F.plainAttrs_list PySem.F.slot_list_append PySem.F.type_list_append mt_append (pv 3) (pa_cons (pv 7) pa_nil))))))))
        (pss_one (ps_ret (pe_op op_gAdd (pv 3) (pe_op op_gMul (pe_lst (pa_cons pe_str pa_nil)) (pv 4))))))))), ?rd⟩)
  case len => obtain ⟨_, _, _, rfl, _⟩ := h; rfl
  case rd =>
    obtain ⟨a, ns, m, rfl, hS, q⟩ := h
    have sz : 10000000 ≤ sizeLine := by rw [sizeLine_eq]; omega
    walk_at "wt"
    refine ⟨a, 0, ns, rfl, hS, by decide, ⟨by omega, fun p np => ?_⟩⟩
    have s1 := same_new (o := .lst []) np
    have hp : upd H p (.lst []) p = some (.lst (SgL [])) := upd_same
    have hS1 := s1.seq hS
    generalize upd H p (.lst []) = H1 at s1 hp hS1 ⊢
    refine ⟨a, 1, ns, rfl, hS1, by decide, ?_⟩
    walk_at "wt"
    have m20 := mod_lt (a := cell ns 1) (n := 20) (by decide)
    obtain ⟨n, en⟩ := Int.eq_ofNat_of_zero_le m20.1
    rw [en] at m20 ⊢
    refine ⟨by omega, by omega, ?_⟩
    rw [Int.toNat_natCast]
    refine forW_range (lo := 0) (fun i σ H' => ∃ d : Nat, ∃ ls o5 o6 o7, σ = [some (.ref a), some (.int m), some (.int (cell ns 0)), some (.ref p), some (.int (d : Int)), o5, o6, o7] ∧ H' p = some (.lst (SgL ls)) ∧ (∀ b x, b ≠ p → H1 b = some x → H' b = some x) ∧ ls.length = i ∧ d ≤ i ∧ OkL 800 ls) ⟨0, [], _, _, _, rfl, hp, fun b x _ g => g, rfl, by omega, .nil⟩ ?_ ?_
    · rintro i σ H' hi ⟨d, ls, o5, o6, o7, rfl, hp', k', ll, dl, ok⟩
      have sH : Same H H' := fun b x g => k' b x (ne_of_none g np) (s1 b x g)
      walk_at "wt"
      refine ⟨a, _, ns, rfl, sH.seq hS, by omega, ?_⟩
      walk_at "wt"
      refine ⟨_, _, rfl, fun r H3 s3 lr ar => ?_⟩
      generalize (cell ns (4 + (0 + (i : Int)) % 12) + 7919 * (0 + (i : Int)) + 5) * 48271 % 2147483647 = e
      refine ⟨fun σ' H4 => ∃ d' : Nat, ∃ row o6, σ' = [some (.ref a), some (.int m), some (.int (cell ns 0)), some (.ref p), some (.int (d' : Int)), some (.int (0 + (i : Int))), o6, some (.str (Sg row))] ∧ Same H' H4 ∧ d' ≤ i + 1 ∧ row.length ≤ 800 ∧ Asc row, ?_, ?_⟩
      · have tellA : Asc [116, 101, 108, 108, 32] := by unfold Asc; decide
        have dm : ∀ (x : Option V) (H4 : Hp), Same H' H4 → if (d : Int) = m then sp_name28 K [V.int (cell ns 0), .int 0] H4 (fun y H2 => gAdd (.str "tell ") y H2 fun x_7 H1 => ∃ d' : Nat, ∃ row o6, [some (.ref a), some (.int m), some (.int (cell ns 0)), some (.ref p), some (.int (d : Int)), some (.int (0 + (i : Int))), x, some x_7] = [some (.ref a), some (.int m), some (.int (cell ns 0)), some (.ref p), some (.int (d' : Int)), some (.int (0 + (i : Int))), o6, some (.str (Sg row))] ∧ Same H' H1 ∧ d' ≤ i + 1 ∧ row.length ≤ 800 ∧ Asc row) (fun c d H2 => E c d H2)
            else ∃ d' : Nat, ∃ row o6, [some (.ref a), some (.int m), some (.int (cell ns 0)), some (.ref p), some (.int ((d : Int) + 1)), some (.int (0 + (i : Int))), x, some (.str (Sg r))] = [some (.ref a), some (.int m), some (.int (cell ns 0)), some (.ref p), some (.int (d' : Int)), some (.int (0 + (i : Int))), o6, some (.str (Sg row))] ∧ Same H' H4 ∧ d' ≤ i + 1 ∧ row.length ≤ 800 ∧ Asc row := fun x H4 s4 => by
          split
          · refine ⟨_, _, rfl, fun z H5 s5 lz az => ?_⟩
            rw [show ("tell " : Str) = Sg [116, 101, 108, 108, 32] from by decide +kernel]
            walk_at "wt"
            rw [Sg_add]
            exact ⟨by rw [Sg_len, Sg_len]; show 5 + _ ≤ _; omega, d, _, _, rfl, s4.trans s5, by omega, by rw [List.length_append]; show 5 + _ ≤ _; omega, tellA.app az⟩
          · exact ⟨d + 1, r, _, rfl, s4, by omega, by omega, ar⟩
        refine ite_dup (fun _ d0 => ?_) ?_
        · exact ⟨d - 1, wEnd, _, by rw [show ((d - 1 : Nat) : Int) = (d : Int) - 1 from by omega, lits.2.2.2.2.2.2.2.2.2], s3, by omega, by decide, end_asc⟩
        refine r_slStr (by omega) ?_
        walk_at "wt"
        by_cases c1 : Sg (cutL r none (some 3)) = ("if " : Str)
        · rw [if_pos c1]
          exact dm _ _ s3
        rw [if_neg c1]
        refine r_slStr (by omega) ?_
        walk_at "wt"
        by_cases c2 : Sg (cutL r none (some 6)) = ("again " : Str)
        · rw [if_pos c2]
          exact dm _ _ s3
        rw [if_neg c2]
        exact ⟨d, r, _, rfl, s3, by omega, by omega, ar⟩
      rintro σ' H4 ⟨d', row, o6, rfl, s4, dl', lr', ar'⟩
      walk_at "wt"
      refine r_app (s4 _ _ hp') (by rw [SgL_len]; omega) ⟨d', ls ++ [row], _, _, _, rfl, by rw [upd_same, ← SgL_appN]; rfl, fun b x n g => (upd_ne n).trans (s4 _ _ (k' b x n g)), by rw [List.length_append, ll]; rfl, dl', ok.app (.one lr' ar')⟩
    · rintro σ H' ⟨d, ls, o5, o6, o7, rfl, hp', k', ll, dl, ok⟩
      have sH : Same H H' := fun b x g => k' b x (ne_of_none g np) (s1 b x g)
      walk_at "wt"
      refine ⟨by omega, fun e ne => ?_⟩
      have se := same_new (o := .lst [.str "end"]) ne
      refine ⟨_, upd_same, by omega, by omega, by show 1 * _ ≤ _; omega, fun e2 ne2 => ?_⟩
      rw [Int.toNat_natCast, rep_end]
      have se2 := same_new (o := .lst (SgL (List.replicate d wEnd))) ne2
      refine ⟨_, _, se2 _ _ (se _ _ hp'), upd_same, by rw [SgL_len, SgL_len, List.length_replicate]; omega, fun p2 np2 => ?_⟩
      refine q p2 (ls ++ List.replicate d wEnd) _ (sH.trans ((se.trans se2).trans (same_new np2))) (by rw [upd_same, SgL_appN]) (by rw [List.length_append, List.length_replicate]; omega) (ok.app fun x m => ?_)
      rw [List.eq_of_mem_replicate m]
      exact ⟨by decide, end_asc⟩
theorem f__law_lines (T : Tx K mg) : Fn P w K mg base 4 "_law_lines" ["_law_script"] (sp_lines28 K) := by
  have c__law_at := f__law_at (P := P) (w := w) (base := base) T
  have c__law_some := f__law_some (P := P) (w := w) (base := base) T
  have c__law_name := f__law_name (P := P) (w := w) (base := base) T
  refine T.mkFn 17 31 (d := d__law_lines) (N := ["_law_script", "_law_way", "_law_more", "_law_lines_here", "_law_k"]) (k := 3) rfl rfl rfl rfl rfl sc__law_lines (fun _ _ _ _ _ _ us hl => match us, hl with | [_], _ => rfl) (fun vs H Q E h => ?len) (fun cdv A outer s H vs Q E hr h => ⟨_,
      (pss_cons (ps_set (i := 1) sc__law_lines.nd rfl (Or.inl rfl) (pe_op op_mod (pe_fn (takes_of rfl rfl rfl rfl) c__law_at (hr.mono (by decide)) (by rfl) (pa_cons (pv 0) (pa_cons pe_int pa_nil))) pe_int))
        (pss_cons (ps_set (i := 2) sc__law_lines.nd rfl (Or.inl rfl) (pe_op op_mod (pe_op op_gMul (pe_op op_gAdd (pe_op op_fdiv (pe_fn (takes_of rfl rfl rfl rfl) c__law_at (hr.mono (by decide)) (by rfl) (pa_cons (pv 0) (pa_cons pe_int pa_nil))) pe_int) pe_int) pe_int) pe_int))
        (pss_cons (ps_if (pt_cmpR (op_eqK (K := K) rfl hr.units) (pv 1) pe_int (nomark _)) (pss_cons (ps_set (i := 3) sc__law_lines.nd rfl (Or.inl rfl) (pe_fn (takes_of rfl rfl rfl rfl) c__law_some (hr.mono (by decide)) (by rfl) (pa_cons (pv 0) (pa_cons pe_int pa_nil))))
        (pss_cons (ps_for (passes_of rfl) rfl (pi_range1 rfl (T.free 51) (pa_cons (pe_op op_gAdd pe_int (pe_op op_mod (pv 2) pe_int)) pa_nil)) (pg_name (i := 4) sc__law_lines.nd rfl (Or.inl rfl)) (pss_one (ps_set (i := 3) sc__law_lines.nd rfl (Or.inl rfl) (pe_op op_gAdd (pe_op op_gAdd (pe_lst (pa_cons (pe_menu (pa_cons (pe_op op_gAdd pe_str (pe_callTy call_gStrI (by rfl) (T.free 55) (by decide +kernel) (pa_cons (pv 4) pa_nil))) (pa_cons (pe_op op_gAdd pe_str (pe_fn (takes_of rfl rfl rfl rfl) c__law_name (hr.mono (by decide)) (by rfl) (pa_cons (pe_fn (takes_of rfl rfl rfl rfl) c__law_at (hr.mono (by decide)) (by rfl) (pa_cons (pv 0) (pa_cons pe_int pa_nil))) (pa_cons (pv 4) pa_nil)))) pa_nil)) (pe_op op_mod (pe_op op_fdiv (pv 2) pe_int) pe_int) (fun _ _ => rfl)) pa_nil)) (pv 3)) (pe_lst (pa_cons pe_str pa_nil))))))
        (pss_one (ps_ret (pv 3))))) pss_nil)
        (pss_cons (ps_set (i := 3) sc__law_lines.nd rfl (Or.inl rfl) (pe_fn (takes_of rfl rfl rfl rfl) c__law_some (hr.mono (by decide)) (by rfl) (pa_cons (pv 0) (pa_cons pe_int pa_nil))))
        (pss_cons (ps_if (pt_cmpR (op_eqK (K := K) rfl hr.units) (pv 1) pe_int (nomark _)) (pss_one (ps_set (i := 3) sc__law_lines.nd rfl (Or.inl rfl) (pe_op op_gAdd (pe_lc (own := [("_law_k", 4)]) (g := gName 4) rfl sc__law_lines.nd (pi_range1 rfl (T.free 51) (pa_cons (pe_op op_gAdd pe_int (pe_op op_mod (pv 2) pe_int)) pa_nil)) (blkOk_by (own := [("_law_k", 4)]) (N := ["_law_script", "_law_way", "_law_more", "_law_lines_here", "_law_k"]) (sc := defScope s__law_lines) (by decide +kernel)) (fun _ _ _ _ _ => (pg_name (i := 4) sc__law_lines.nd rfl (Or.inl rfl))) (fun _ _ _ _ _ => pts_nil) (fun _ _ _ _ _ => (pe_op op_gAdd pe_str (pe_fn takes0 c__law_name (hr.mono (by decide)) (by rfl) (pa_cons (pe_fn takes0 c__law_at (hr.mono (by decide)) (by rfl) (pa_cons (pv 0) (pa_cons pe_int pa_nil))) (pa_cons (pv 4) pa_nil)))))) (pv 3)))) pss_nil)
        (pss_one (ps_ret (pv 3)))))))), ?rd⟩)
  case len => obtain ⟨_, _, rfl, _⟩ := h; rfl
  case rd =>
    obtain ⟨a, ns, rfl, hS, q⟩ := h
    have sz : 10000000 ≤ sizeLine := by rw [sizeLine_eq]; omega
    walk_at "wt"
    refine ⟨a, 2, ns, rfl, hS, by decide, ?_⟩
    walk_at "wt"
    refine ⟨a, 2, ns, rfl, hS, by decide, ?_⟩
    walk_at "wt"
    generalize (cell ns 2 / 5 + 3) * 48271 % 2147483647 = e
    have sm : ∀ n : Int, n.natAbs < 1000 → n.natAbs.log2 < 1920 ∧ (figL n).length ≤ 101 := fun n h => ⟨fig_log (Nat.lt_of_lt_of_le h (by decide +kernel)), figL_len (Nat.lt_of_lt_of_le h (by decide +kernel))⟩
    have a1 : Asc [97, 103, 97, 105, 110, 32] := by unfold Asc; decide
    have a2 : Asc [105, 102, 32] := by unfold Asc; decide
    have a3 : Asc [116, 101, 108, 108, 32] := by unfold Asc; decide
    split
    · refine ⟨a, ns, 0, rfl, hS, fun p ls H1 s1 hp hl ok => ?_⟩
      have m4 := mod_lt (a := e) (n := 4) (by decide)
      walk_at "wt"
      refine ⟨by omega, by omega, ?_⟩
      refine forW_range (lo := 0) (fun i σ H' => ∃ q ls o4, σ = [some (.ref a), some (.int (cell ns 2 % 5)), some (.int e), some (.ref q), o4] ∧ Same H H' ∧ H' q = some (.lst (SgL ls)) ∧ ls.length ≤ 50 + 2 * i ∧ OkL 800 ls) ⟨p, ls, _, rfl, s1, hp, by omega, ok⟩ ?_ ?_
      · rintro i σ H' hi ⟨q1, ls1, o4, rfl, s', hq1, ll, ok'⟩
        obtain ⟨b1, b2⟩ := sm (0 + (i : Int)) (by omega)
        walk_at "wt"
        refine r_strI b1 ?_
        rw [str_int, lits3.2]
        walk_at "wt"
        rw [Sg_add]
        refine ⟨by rw [Sg_len, Sg_len]; show 6 + _ ≤ _; omega, a, 0, ns, rfl, s'.seq hS, by decide, _, _, rfl, fun z H2 s2 lz az => ?_⟩
        rw [lits3.1]
        walk_at "wt"
        rw [Sg_add]
        have m2 := mod_lt (a := e / 4) (n := 2) (by decide)
        refine ⟨by rw [Sg_len, Sg_len]; show 3 + _ ≤ _; omega, by omega, menu_all m2.1 m2.2 fun v mv => ⟨by omega, fun p1 np1 => ?_⟩⟩
        obtain ⟨x, rfl, lx, ax⟩ : ∃ x : Ln, v = .str (Sg x) ∧ x.length ≤ 800 ∧ Asc x := by
          simp only [List.mem_cons, List.not_mem_nil, or_false] at mv
          rcases mv with rfl | rfl
          · exact ⟨_, rfl, by rw [List.length_append]; show 6 + _ ≤ _; omega, a1.app num_asc10⟩
          · exact ⟨_, rfl, by rw [List.length_append]; show 3 + _ ≤ _; omega, a2.app az⟩
        have sA := same_new (o := .lst [.str (Sg x)]) np1
        refine ⟨_, _, upd_same, sA _ _ (s2 _ _ hq1), by rw [SgL_len]; show 1 + _ ≤ _; omega, fun p2 np2 => ⟨by omega, fun p3 np3 => ?_⟩⟩
        have sB := same_new (o := .lst ([.str (Sg x)] ++ SgL ls1)) np2
        have sC := same_new (o := .lst [.str "end"]) np3
        refine ⟨_, _, sC _ _ upd_same, upd_same, by show _ + 1 ≤ _; rw [List.length_append, SgL_len]; show 1 + _ + 1 ≤ _; omega, fun p4 np4 => ?_⟩
        refine ⟨p4, [x] ++ ls1 ++ [wEnd], _, rfl, s'.trans (s2.trans (sA.trans (sB.trans (sC.trans (same_new np4))))), ?_, ?_, ((OkL.one lx ax).app ok').app (.one (by decide) end_asc)⟩
        · rw [upd_same, ← SgL_appN, ← SgL_appN, lits.2.2.2.2.2.2.2.2.2]
          rfl
        · rw [List.length_append, List.length_append]
          show 1 + _ + 1 ≤ _
          omega
      · rintro σ H' ⟨q1, ls1, o4, rfl, s', hq1, ll, ok'⟩
        walk_at "wt"
        exact q q1 ls1 H' s' hq1 (by omega) ok'
    · refine ⟨a, ns, 3, rfl, hS, fun p ls H1 s1 hp hl ok => ?_⟩
      walk_at "wt"
      split
      · have m6 := mod_lt (a := e) (n := 6) (by decide)
        refine ⟨by omega, by omega, fun D nD => ?_⟩
        refine lc_it walk_range (fun i Hx => ∃ ps : List Ln, Same H1 Hx ∧ Hx D = some (.lst (SgL ps)) ∧ ps.length = i ∧ OkL 800 ps) ⟨[], same_new nD, upd_same, rfl, .nil⟩ (fun _ _ _ _ => trivial) (fun i x Hx Hy hi e y => ?_) fun Hx e => ?_
        · obtain ⟨ps, sx, hD, pl, pp⟩ := e
          obtain ⟨rfl, rfl⟩ := y
          walk_at "wt"
          refine ⟨a, 0, ns, rfl, (s1.trans sx).seq hS, by decide, _, _, rfl, fun z H2 s2 lz az => ?_⟩
          rw [show ("tell " : Str) = Sg [116, 101, 108, 108, 32] from by decide +kernel]
          walk_at "wt"
          rw [Sg_add]
          have hD2 := s2 _ _ hD
          refine ⟨by rw [Sg_len, Sg_len]; show 5 + _ ≤ _; omega, _, hD2, by rw [SgL_len]; omega, ps ++ [[116, 101, 108, 108, 32] ++ z], fun b x g => (upd_ne (ne_of_none g nD)).trans (s2 _ _ (sx _ _ g)), ?_, by rw [List.length_append, pl]; rfl, pp.app (.one (by rw [List.length_append]; show 5 + _ ≤ _; omega) (a3.app az))⟩
          rw [upd_same, ← SgL_appN]
          rfl
        obtain ⟨ps, sx, hD, pl, pp⟩ := e
        refine ⟨_, _, hD, sx _ _ hp, by rw [SgL_len, SgL_len]; omega, fun p2 np2 => ?_⟩
        exact q p2 (ps ++ ls) _ (s1.trans (sx.trans (same_new np2))) (by rw [upd_same, SgL_appN]) (by rw [List.length_append]; omega) (pp.app ok)
      · exact q p ls H1 s1 hp (by omega) ok
end

local macro_rules | `(tactic| walk_at "wt") => `(tactic| try simp only [↓x_var0, ↓x_varS, ↓x_c, ↓x_op, ↓x_un, ↓x_cb, ↓x_nil, ↓x_cons, ↓x_test, ↓x_b, ↓x_ex, ↓x_and, ↓x_or, ↓x_not, ↓x_andV, ↓x_orV, ↓x_notV, ↓x_tif, ↓x_chain, ↓x_menu, ↓x_menuI, ↓x_lst, ↓x_tup, ↓x_dnew, ↓x_callW, ↓x_callN, ↓x_seq, ↓x_next, ↓x_ret, ↓x_retN, ↓x_drop, ↓x_ifS, ↓x_asg, ↓x_name, ↓x_raise, ↓x_fld, ↓x_setF, ↓x_meth, ↓x_make, ↓x_sub, ↓r_min, ↓r_max, ↓x_yes, ↓x_for, ↓x_lock, ↓x_keys, ↓x_cut, ↓x_lc, ↓x_rng1, ↓x_rng2, ↓x_lst1, ↓x_itup, ↓x_rng3, ↓x_three, ↓x_lstg, ↓x_tupg, ↓x_adrS, ↓x_one, ↓x_two, ↓x_adr, ↓x_sl, ↓x_np, ↓x_pt, ↓x_int, ↓x_bm, ↓x_bm0, ↓x_consg, ↓x_nilg, ↓x_dget2, ↓x_dget1, ↓x_dgetN, ↓x_dget, ↓x_din, ↓x_dni, ↓x_dput, ↓x_dpop2, ↓r_isB, ↓r_notB, ↓x_enum, ↓x_zip, ↓x_str, ↓x_strE, ↓r_inS, ↓r_ninS, wipe, List.map_cons, List.map_nil, ↓x_isT, ↓r_isiII, ↓r_isiBB, ↓r_isiIB, ↓r_isiSS, ↓r_neNS, ↓r_neSN, ↓r_neNN, ↓r_eqNS, ↓r_eqSN, ↓r_eqNN, ↓r_eqIS, ↓r_neIS, ↓r_neSI, ↓r_neBS, ↓r_eqBB, ↓r_neBB, ↓x_start, ↓x_K, ↓x_start0, ↓r_i0, ↓r_i, ↓r_u, ↓r_addI, ↓r_addS, ↓r_mulI, ↓r_mulS, ↓r_eqI, ↓r_neI, ↓r_eqS, ↓r_neS, ↓r_absI, ↓r_intI, ↓r_intB, List.length_cons, List.length_nil, List.replicate, List.set_cons_zero, List.set_cons_succ, decide_eq_true_eq, Bool.not_eq_true', decide_eq_false_iff_not, if_true, if_false, Bool.false_eq_true, Bool.true_eq_false, ite_true, ite_false, Bool.not_true, Bool.not_false, c_div, n_ten, c_pow, not_true_eq_false, not_false_eq_true, decide_true, decide_false, true_and, and_true, and_self, true_or, or_true, Int.reduceLT, Int.reduceLE, Int.reduceMul, Int.reduceAdd, Int.reduceSub, Int.reducePow, Int.reduceNeg, Int.reduceDiv, Int.reduceMod, Nat.reducePow, Int.reduceToNat, Int.reduceEq, Int.reduceNe, Nat.reduceLT, Nat.reduceLeDiff, Nat.reduceAdd, ↓x_whole, ↓r_repS, ↓r_repS, ↓r_repS, ↓r_repS, ↓r_repS, ↓r_repS, ↓x_zipS, ↓r_repS, ↓r_repS, ↓r_repS, ↓r_repS, ↓r_repS, ↓r_repS, ↓r_repS])
theorem cut_sum {l : Ln} {i : Int} (h : 0 ≤ i) : (cutL l none (some i)).length + (cutL l (some i) none).length ≤ l.length := by
  obtain ⟨k, rfl⟩ := Int.eq_ofNat_of_zero_le h
  rw [show cutL l none (some (k : Int)) = l.take k from cutL_to (k := k), show cutL l (some (k : Int)) none = l.drop k from cutL_from (k := k), List.length_take, List.length_drop]
  omega
theorem cut_parts {l : Ln} {x : Nat} {i : Int} : (cutL l none (some i) ++ [x] ++ cutL l (some i) none).length = (cutL l none (some i)).length + 1 + (cutL l (some i) none).length := by
  rw [List.length_append, List.length_append]
  rfl
section
variable {P : Program} {w : World} {K : PySem.W.Frag} {mg : Str → Option Value} {base : Heap}
theorem f__law_wrong_word (T : Tx K mg) : Fn P w K mg base 1 "_law_wrong_word" ["_law_word", "_law_cell"] (sp_wrong28 K) := by
  refine T.mkFn 18 32 (d := d__law_wrong_word) (N := ["_law_word", "_law_cell", "_law_odd", "_law_more", "_law_signs", "_law_at_here"]) (k := 0) rfl rfl rfl rfl rfl sc__law_wrong_word (fun _ _ _ _ _ _ us hl => match us, hl with | [_, _], _ => rfl) (fun vs H Q E h => ?len) (fun cdv A outer s H vs Q E hr h => ⟨_,
      (pss_cons (ps_set (i := 2) sc__law_wrong_word.nd rfl (Or.inl rfl) (pe_lst (pa_cons pe_str (pa_cons pe_str (pa_cons pe_str (pa_cons pe_str (pa_cons pe_str (pa_cons pe_str (pa_cons pe_str (pa_cons pe_str (pa_cons pe_str (pa_cons pe_str (pa_cons pe_str (pa_cons pe_str (pa_cons pe_str (pa_cons pe_str (pa_cons pe_str (pa_cons pe_str pa_nil))))))))))))))))))
        (pss_cons (ps_set (i := 2) sc__law_wrong_word.nd rfl (Or.inl rfl) (pe_op op_gAdd (pv 2) (pe_lst (pa_cons pe_str (pa_cons pe_str (pa_cons pe_str (pa_cons pe_str (pa_cons pe_str (pa_cons pe_str (pa_cons pe_str (pa_cons pe_str (pa_cons pe_str pa_nil))))))))))))
        (pss_cons (ps_set (i := 3) sc__law_wrong_word.nd rfl (Or.inl rfl) (pe_op op_fdiv (pv 1) pe_int))
        (pss_cons (ps_if (pt_cmpR (op_eqK (K := K) rfl hr.units) (pe_op op_mod (pv 1) pe_int) pe_int (nomark _)) (pss_one (ps_ret (pe_lst (pa_cons (pv 0) (pa_cons (pe_ix (ix_seqK (K := K) rfl) (pv 2) (pe_op op_mod (pv 3) pe_int) (fun _ _ => rfl)) pa_nil))))) pss_nil)
        (pss_cons (ps_if (pt_cmpR (op_eqK (K := K) rfl hr.units) (pe_op op_mod (pv 1) pe_int) pe_int (nomark _)) (pss_one (ps_ret (pe_lst pa_nil))) pss_nil)
        (pss_cons (ps_if (pt_cmpR (op_eqK (K := K) rfl hr.units) (pe_op op_mod (pv 1) pe_int) pe_int (nomark _)) (pss_one (ps_ret (pe_lst (pa_cons (pe_ix (ix_seqK (K := K) rfl) (pv 2) (pe_op op_mod (pv 3) pe_int) (fun _ _ => rfl)) pa_nil)))) pss_nil)
        (pss_cons (ps_set (i := 4) sc__law_wrong_word.nd rfl (Or.inl rfl) pe_str)
        (pss_cons (ps_set (i := 5) sc__law_wrong_word.nd rfl (Or.inl rfl) (pe_op op_mod (pv 3) (pe_op op_gAdd (pe_callB (call_lenK (K := K) rfl) (by rfl) (T.free 50) PySem.boot_len (pa_cons (pv 0) pa_nil)) pe_int)))
        (pss_one (ps_ret (pe_lst (pa_cons (pe_op op_gAdd (pe_op op_gAdd (pe_slice sl_str (pv 0) po_none (po_some (pv 5))) (pe_ix (ix_seqK (K := K) rfl) (pv 4) (pe_op op_mod (pe_op op_fdiv (pv 3) pe_int) (pe_callB (call_lenK (K := K) rfl) (by rfl) (T.free 50) PySem.boot_len (pa_cons (pv 4) pa_nil))) (fun _ _ => rfl))) (pe_slice sl_str (pv 0) (po_some (pv 5)) po_none)) pa_nil)))))))))))), ?rd⟩)
  case len => obtain ⟨_, _, rfl, _⟩ := h; rfl
  case rd =>
    obtain ⟨l, c, rfl, hl, ha, q⟩ := h
    have sz : 10000000 ≤ sizeLine := by rw [sizeLine_eq]; omega
    walk_at "wt"
    refine ⟨by omega, fun pa npa => ⟨by omega, fun pb npb => ?_⟩⟩
    have sa := same_new (o := .lst [.str "", .str "end", .str "if", .str "make", .str "tells", .str "A", .str "a1", .str "abcdefghi", .str "007", .str "-0", .str "+5", .str "10", .str "-1", .str "5.0", .str "_", .str "loop"]) npa
    have sb := same_new (o := .lst [.str "abcdefgh", .str "8", .str "again", .str "tell", .str "copy", .str "drop", .str "keep", .str "get", .str "set"]) npb
    refine ⟨_, _, sb _ _ upd_same, upd_same, by show _ ≤ sizeLine; simp only [List.length_cons, List.length_nil]; omega, fun pc npc => ?_⟩
    have sc := same_new (o := .lst ([.str "", .str "end", .str "if", .str "make", .str "tells", .str "A", .str "a1", .str "abcdefghi", .str "007", .str "-0", .str "+5", .str "10", .str "-1", .str "5.0", .str "_", .str "loop"] ++ [.str "abcdefgh", .str "8", .str "again", .str "tell", .str "copy", .str "drop", .str "keep", .str "get", .str "set"])) npc
    have s1 := (sa.trans sb).trans sc
    have hc := upd_same (H := (upd (upd H pa (.lst [.str "", .str "end", .str "if", .str "make", .str "tells", .str "A", .str "a1", .str "abcdefghi", .str "007", .str "-0", .str "+5", .str "10", .str "-1", .str "5.0", .str "_", .str "loop"])) pb (.lst [.str "abcdefgh", .str "8", .str "again", .str "tell", .str "copy", .str "drop", .str "keep", .str "get", .str "set"]))) (a := pc) (o := .lst ([.str "", .str "end", .str "if", .str "make", .str "tells", .str "A", .str "a1", .str "abcdefghi", .str "007", .str "-0", .str "+5", .str "10", .str "-1", .str "5.0", .str "_", .str "loop"] ++ [.str "abcdefgh", .str "8", .str "again", .str "tell", .str "copy", .str "drop", .str "keep", .str "get", .str "set"]))
    generalize upd (upd (upd H pa (.lst [.str "", .str "end", .str "if", .str "make", .str "tells", .str "A", .str "a1", .str "abcdefghi", .str "007", .str "-0", .str "+5", .str "10", .str "-1", .str "5.0", .str "_", .str "loop"])) pb (.lst [.str "abcdefgh", .str "8", .str "again", .str "tell", .str "copy", .str "drop", .str "keep", .str "get", .str "set"])) pc (.lst ([.str "", .str "end", .str "if", .str "make", .str "tells", .str "A", .str "a1", .str "abcdefghi", .str "007", .str "-0", .str "+5", .str "10", .str "-1", .str "5.0", .str "_", .str "loop"] ++ [.str "abcdefgh", .str "8", .str "again", .str "tell", .str "copy", .str "drop", .str "keep", .str "get", .str "set"])) = H1 at s1 hc ⊢
    have ok : ([.str "", .str "end", .str "if", .str "make", .str "tells", .str "A", .str "a1", .str "abcdefghi", .str "007", .str "-0", .str "+5", .str "10", .str "-1", .str "5.0", .str "_", .str "loop"] ++ [.str "abcdefgh", .str "8", .str "again", .str "tell", .str "copy", .str "drop", .str "keep", .str "get", .str "set"] : List V).all (okT 9) = true := by decide +kernel
    have ln : ([.str "", .str "end", .str "if", .str "make", .str "tells", .str "A", .str "a1", .str "abcdefghi", .str "007", .str "-0", .str "+5", .str "10", .str "-1", .str "5.0", .str "_", .str "loop"] ++ [.str "abcdefgh", .str "8", .str "again", .str "tell", .str "copy", .str "drop", .str "keep", .str "get", .str "set"] : List V).length = 25 := rfl
    generalize ([.str "", .str "end", .str "if", .str "make", .str "tells", .str "A", .str "a1", .str "abcdefghi", .str "007", .str "-0", .str "+5", .str "10", .str "-1", .str "5.0", .str "_", .str "loop"] ++ [.str "abcdefgh", .str "8", .str "again", .str "tell", .str "copy", .str "drop", .str "keep", .str "get", .str "set"] : List V) = odd at hc ok ln
    have i25 := mod_lt (a := c / 4) (n := 25) (by decide)
    walk_at "wt"
    split
    · refine r_ixOk hc ok i25.1 (by omega) fun z lz az => ⟨by omega, fun p np => q p [l, z] _ (s1.trans (same_new np)) upd_same (Nat.le_refl _) fun x m => ?_⟩
      simp only [List.mem_cons, List.not_mem_nil, or_false] at m
      rcases m with rfl | rfl
      · exact ⟨by omega, ha⟩
      · exact ⟨by omega, az⟩
    split
    · exact ⟨by omega, fun p np => q p [] _ (s1.trans (same_new np)) upd_same (by decide) .nil⟩
    split
    · exact r_ixOk hc ok i25.1 (by omega) fun z lz az => ⟨by omega, fun p np => q p [z] _ (s1.trans (same_new np)) upd_same (by show 1 ≤ 2; decide) (.one (by omega) az)⟩
    obtain ⟨sg, es, l95, as⟩ : ∃ sg : Ln, (" !\"#$&'()*+,-./0123456789:;<=>?@ABCDEFGHIJKLMNOPQRSTUVWXYZ[\\]^_`abcdefghijklmnopqrstuvwxyz{|}~\t" : Str) = Sg sg ∧ sg.length = 95 ∧ Asc sg := ⟨TL.tl _, Sg_of _, by decide +kernel, by unfold Asc; decide +kernel⟩
    rw [es]
    refine r_lenStr ⟨by omega, ?_⟩
    walk_at "wt"
    have c1 := cutL_le (l := l) (lo := none) (hi := some (c / 4 % (l.length + 1)))
    have c2 := cutL_le (l := l) (lo := some (c / 4 % (l.length + 1))) (hi := none)
    refine ⟨by omega, r_slStr (by omega) (r_lenStr ⟨by omega, ?_⟩)⟩
    have m95 := mod_lt (a := c / 4 / 9) (n := ((95 : Nat) : Int)) (by decide)
    rw [l95]
    walk_at "wt"
    obtain ⟨k, ek⟩ := Int.eq_ofNat_of_zero_le m95.1
    rw [ek] at m95 ⊢
    have kl : k < sg.length := by omega
    refine ⟨by decide, r_ixStr (i := k) (by omega) (List.getElem?_eq_getElem kl) ?_⟩
    walk_at "wt"
    rw [Sg_add]
    refine ⟨by rw [Sg_len, Sg_len]; show _ + 1 ≤ _; omega, r_slStr (by omega) ?_⟩
    walk_at "wt"
    rw [Sg_add]
    refine ⟨by rw [Sg_len, Sg_len, List.length_append]; show _ + 1 + _ ≤ _; omega, by omega, fun p np => q p [cutL l none (some (c / 4 % (l.length + 1))) ++ [sg[k]] ++ cutL l (some (c / 4 % (l.length + 1))) none] _ (s1.trans (same_new np)) upd_same (by show 1 ≤ 2; decide) (.one ?_ ?_)⟩
    · rw [cut_parts]
      have := cut_sum (l := l) (i := c / 4 % (l.length + 1)) (mod_lt (by omega)).1
      omega
    · exact (ha.cut.app fun x mx => by rw [List.mem_singleton.mp mx]; exact as _ (List.getElem_mem kl)).app ha.cut
end

local macro_rules | `(tactic| walk_at "wt") => `(tactic| try simp only [↓x_var0, ↓x_varS, ↓x_c, ↓x_op, ↓x_un, ↓x_cb, ↓x_nil, ↓x_cons, ↓x_test, ↓x_b, ↓x_ex, ↓x_and, ↓x_or, ↓x_not, ↓x_andV, ↓x_orV, ↓x_notV, ↓x_tif, ↓x_chain, ↓x_menu, ↓x_menuI, ↓x_lst, ↓x_tup, ↓x_dnew, ↓x_callW, ↓x_callN, ↓x_seq, ↓x_next, ↓x_ret, ↓x_retN, ↓x_drop, ↓x_ifS, ↓x_asg, ↓x_name, ↓x_raise, ↓x_fld, ↓x_setF, ↓x_meth, ↓x_make, ↓x_sub, ↓r_min, ↓r_max, ↓x_yes, ↓x_for, ↓x_lock, ↓x_keys, ↓x_cut, ↓x_lc, ↓x_rng1, ↓x_rng2, ↓x_lst1, ↓x_itup, ↓x_rng3, ↓x_three, ↓x_lstg, ↓x_tupg, ↓x_adrS, ↓x_one, ↓x_two, ↓x_adr, ↓x_sl, ↓x_np, ↓x_pt, ↓x_int, ↓x_bm, ↓x_bm0, ↓x_consg, ↓x_nilg, ↓x_dget2, ↓x_dget1, ↓x_dgetN, ↓x_dget, ↓x_din, ↓x_dni, ↓x_dput, ↓x_dpop2, ↓r_isB, ↓r_notB, ↓x_enum, ↓x_zip, ↓x_str, ↓x_strE, ↓r_inS, ↓r_ninS, wipe, List.map_cons, List.map_nil, ↓x_isT, ↓r_isiII, ↓r_isiBB, ↓r_isiIB, ↓r_isiSS, ↓r_neNS, ↓r_neSN, ↓r_neNN, ↓r_eqNS, ↓r_eqSN, ↓r_eqNN, ↓r_eqIS, ↓r_neIS, ↓r_neSI, ↓r_neBS, ↓r_eqBB, ↓r_neBB, ↓x_start, ↓x_K, ↓x_start0, ↓r_i0, ↓r_i, ↓r_u, ↓r_addI, ↓r_addS, ↓r_mulI, ↓r_mulS, ↓r_eqI, ↓r_neI, ↓r_eqS, ↓r_neS, ↓r_absI, ↓r_intI, ↓r_intB, List.length_cons, List.length_nil, List.replicate, List.set_cons_zero, List.set_cons_succ, decide_eq_true_eq, Bool.not_eq_true', decide_eq_false_iff_not, if_true, if_false, Bool.false_eq_true, Bool.true_eq_false, ite_true, ite_false, Bool.not_true, Bool.not_false, c_div, n_ten, c_pow, not_true_eq_false, not_false_eq_true, decide_true, decide_false, true_and, and_true, and_self, true_or, or_true, Int.reduceLT, Int.reduceLE, Int.reduceMul, Int.reduceAdd, Int.reduceSub, Int.reducePow, Int.reduceNeg, Int.reduceDiv, Int.reduceMod, Nat.reducePow, Int.reduceToNat, Int.reduceEq, Int.reduceNe, Nat.reduceLT, Nat.reduceLeDiff, Nat.reduceAdd, ↓x_whole, ↓r_repS, ↓r_repS, ↓r_repS, ↓r_repS, ↓r_repS, ↓r_repS, ↓x_zipS, ↓r_repS, ↓r_repS, ↓r_repS, ↓r_repS, ↓r_repS, ↓r_repS, ↓r_repS, ↓r_repS])
theorem okT_all {B : Nat} : ∀ {xs : List V}, xs.all (okT B) = true → ∃ ls, xs = SgL ls ∧ OkL B ls
  | [], _ => ⟨[], rfl, .nil⟩
  | x :: r, h => by
    rw [List.all_cons, Bool.and_eq_true] at h
    obtain ⟨l, rfl, b, a⟩ := okT_is h.1
    obtain ⟨ls, rfl, o⟩ := okT_all h.2
    exact ⟨l :: ls, rfl, fun y m => (List.mem_cons.mp m).elim (fun z => by rw [z]; exact ⟨b, a⟩) (o y)⟩
theorem spl_sum {s : Nat} : ∀ {l acc : List Nat}, ((TL.spl [s] 0 acc l).map List.length).sum + (TL.spl [s] 0 acc l).length = acc.length + l.length + 1
  | [], acc => by
    rw [TL.spl_nil]
    rfl
  | c :: l, acc => by
    rw [spl_cons]
    split
    · have ih := spl_sum (s := s) (l := l) (acc := [])
      rw [List.length_nil] at ih
      rw [List.map_cons, List.sum_cons, List.length_cons, List.length_cons]
      omega
    · have ih := spl_sum (s := s) (l := l) (acc := acc ++ [c])
      rw [List.length_append] at ih
      rw [List.length_cons]
      have : [c].length = 1 := rfl
      omega
theorem sum_td {f : Ln → Nat} {ps : List Ln} {k : Nat} : ((ps.take k).map f).sum + ((ps.drop (k + 1)).map f).sum ≤ (ps.map f).sum := by
  induction ps generalizing k with
  | nil => simp
  | cons p r ih =>
    cases k with
    | zero =>
      show 0 + (r.map f).sum ≤ (f p + (r.map f).sum)
      omega
    | succ k =>
      have := ih (k := k)
      rw [List.take_succ_cons, List.map_cons, List.sum_cons, List.map_cons, List.sum_cons, List.drop_succ_cons]
      omega
theorem r_sl_to {K : PySem.W.Frag} {H : Hp} {Q : VK} {a : Addr} {ls : List Ln} {k : Nat} (ha : H a = some (.lst (SgL ls))) (q : ∀ p, H p = none → Q (.ref p) (upd H p (.lst (SgL (ls.take k))))) : rSlL K (.ref a) none (some (k : Int)) H Q :=
  ⟨a, _, rfl, .of ha, fun p np => by rw [cutV_toL, show (SgL ls).take k = SgL (ls.take k) from List.map_take.symm]; exact q p np⟩
theorem r_sl_from {K : PySem.W.Frag} {H : Hp} {Q : VK} {a : Addr} {ls : List Ln} {k : Nat} (ha : H a = some (.lst (SgL ls))) (q : ∀ p, H p = none → Q (.ref p) (upd H p (.lst (SgL (ls.drop k))))) : rSlL K (.ref a) (some (k : Int)) none H Q :=
  ⟨a, _, rfl, .of ha, fun p np => by rw [cutV_fromL, show (SgL ls).drop k = SgL (ls.drop k) from List.map_drop.symm]; exact q p np⟩
/-- lines added, then those behind -/
theorem r_tail {K : PySem.W.Frag} {H : Hp} {Q : VK} {a x m : Addr} {ls as ms : List Ln} {k : Nat} (hx : H x = some (.lst (SgL as))) (hm : H m = some (.lst (SgL ms))) (ha : H a = some (.lst (SgL ls))) (hl : as.length + ms.length + ls.length ≤ sizeLine)
    (q : ∀ p H', Same H H' → H' p = some (.lst (SgL (as ++ ms ++ ls.drop k))) → Q (.ref p) H') : gAdd (.ref x) (.ref m) H fun z H3 => rSlL K (.ref a) (some (k : Int)) none H3 fun u H4 => gAdd z u H4 Q := by
  refine ⟨_, _, hx, hm, by rw [SgL_len, SgL_len]; omega, fun p np => ?_⟩
  have s1 := same_new (o := .lst (SgL as ++ SgL ms)) np
  have hp : upd H p (.lst (SgL as ++ SgL ms)) p = some (.lst (SgL as ++ SgL ms)) := upd_same
  refine r_sl_from (s1 _ _ ha) fun p2 np2 => ?_
  have s2 := same_new (o := .lst (SgL (ls.drop k))) np2
  refine ⟨_, _, s2 _ _ hp, upd_same, by rw [List.length_append, SgL_len, SgL_len, SgL_len, List.length_drop]; omega, fun p3 np3 => ?_⟩
  refine q p3 _ ((s1.trans s2).trans (same_new np3)) ?_
  rw [upd_same, SgL_appN, SgL_appN]
section
variable {P : Program} {w : World} {K : PySem.W.Frag} {mg : Str → Option Value} {base : Heap}
theorem f__law_spoilt (T : Tx K mg) : Fn P w K mg base 2 "_law_spoilt" ["_law_lines_here", "_law_cell"] (sp_spoilt28 K) := by
  have c__law_wrong_word := f__law_wrong_word (P := P) (w := w) (base := base) T
  refine T.mkFn 19 33 (d := d__law_spoilt) (N := ["_law_lines_here", "_law_cell", "_law_at_here", "_law_more", "_law_spot", "_law_own", "_law_words", "_law_k"]) (k := 1) rfl rfl rfl rfl rfl sc__law_spoilt (fun _ _ _ _ _ _ us hl => match us, hl with | [_, _], _ => rfl) (fun vs H Q E h => ?len) (fun cdv A outer s H vs Q E hr h => ⟨_,
      (pss_cons (ps_if (pt_cmpR (op_eqK (K := K) rfl hr.units) (pv 0) (pe_lst pa_nil) (nomark _)) (pss_one (ps_ret (pe_menu (pa_cons (pe_lst (pa_cons pe_str pa_nil)) (pa_cons (pe_lst (pa_cons pe_str (pa_cons pe_str pa_nil))) (pa_cons (pe_lst (pa_cons pe_str pa_nil)) (pa_cons (pe_lst (pa_cons pe_str pa_nil)) pa_nil)))) (pe_op op_mod (pv 1) pe_int) (fun _ _ => rfl)))) pss_nil)
        (pss_cons (ps_set (i := 2) sc__law_spoilt.nd rfl (Or.inl rfl) (pe_op op_mod (pe_op op_fdiv (pv 1) pe_int) (pe_callB (call_lenK (K := K) rfl) (by rfl) (T.free 50) PySem.boot_len (pa_cons (pv 0) pa_nil))))
        (pss_cons (ps_set (i := 3) sc__law_spoilt.nd rfl (Or.inl rfl) (pe_op op_fdiv (pe_op op_fdiv (pv 1) pe_int) (pe_callB (call_lenK (K := K) rfl) (by rfl) (T.free 50) PySem.boot_len (pa_cons (pv 0) pa_nil))))
        (pss_cons (ps_if (pt_cmpR (op_inTG (K := K) rfl (hu65 hr)) (pe_op op_mod (pv 1) pe_int) (pe_tup (pa_cons pe_int (pa_cons pe_int (pa_cons pe_int pa_nil)))) (by rfl)) (pss_cons (ps_set (i := 4) sc__law_spoilt.nd rfl (Or.inl rfl) (pe_op op_mod (pe_op op_fdiv (pv 1) pe_int) (pe_op op_gAdd (pe_callB (call_lenK (K := K) rfl) (by rfl) (T.free 50) PySem.boot_len (pa_cons (pv 0) pa_nil)) pe_int)))
        (pss_cons (ps_set (i := 3) sc__law_spoilt.nd rfl (Or.inl rfl) (pe_op op_fdiv (pe_op op_fdiv (pv 1) pe_int) (pe_op op_gAdd (pe_callB (call_lenK (K := K) rfl) (by rfl) (T.free 50) PySem.boot_len (pa_cons (pv 0) pa_nil)) pe_int)))
        (pss_cons (ps_set (i := 5) sc__law_spoilt.nd rfl (Or.inl rfl) (pe_lst (pa_cons (pe_lst (pa_cons pe_str pa_nil)) (pa_cons (pe_lst (pa_cons pe_str pa_nil)) (pa_cons (pe_lst (pa_cons pe_str (pa_cons pe_str pa_nil))) (pa_cons (pe_lst (pa_cons pe_str pa_nil)) (pa_cons (pe_lst (pa_cons pe_str pa_nil)) (pa_cons (pe_lst (pa_cons pe_str (pa_cons pe_str pa_nil))) (pa_cons (pe_lst (pa_cons pe_str pa_nil)) pa_nil)))))))))
        (pss_one (ps_ret (pe_op op_gAdd (pe_op op_gAdd (pe_slice (sl_listK (K := K) rfl) (pv 0) po_none (po_some (pv 4))) (pe_ix (ix_seqK (K := K) rfl) (pv 5) (pe_op op_mod (pv 3) pe_int) (fun _ _ => rfl))) (pe_slice (sl_listK (K := K) rfl) (pv 0) (po_some (pv 4)) po_none))))))) pss_nil)
        (pss_cons (ps_if (PW.pt (pw_and (pt_cmpR (op_eqK (K := K) rfl hr.units) (pe_op op_mod (pv 1) pe_int) pe_int (nomark _)) (pw_and1 (pt_cmpR (op_eqK (K := K) rfl hr.units) (pe_op op_mod (pv 3) pe_int) pe_int (nomark _))))) (pss_one (ps_ret (pe_op op_gAdd (pv 0) (pe_lst (pa_cons pe_str pa_nil))))) pss_nil)
        (pss_cons (ps_if (pt_cmpR (op_eqK (K := K) rfl hr.units) (pe_op op_mod (pv 1) pe_int) pe_int (nomark _)) (pss_one (ps_ret (pe_op op_gAdd (pe_slice (sl_listK (K := K) rfl) (pv 0) po_none (po_some (pv 2))) (pe_slice (sl_listK (K := K) rfl) (pv 0) (po_some (pe_op op_gAdd (pv 2) pe_int)) po_none)))) pss_nil)
        (pss_cons (ps_if (pt_cmpR (op_eqK (K := K) rfl hr.units) (pe_op op_mod (pv 1) pe_int) pe_int (nomark _)) (pss_one (ps_ret (pe_op op_gAdd (pe_op op_gAdd (pe_slice (sl_listK (K := K) rfl) (pv 0) po_none (po_some (pv 2))) (pe_lst (pa_cons (pe_menu (pa_cons (pe_op op_gAdd (pe_ix (ix_seqK (K := K) rfl) (pv 0) (pv 2) (fun _ _ => rfl)) pe_str) (pa_cons (pe_op op_gAdd pe_str (pe_ix (ix_seqK (K := K) rfl) (pv 0) (pv 2) (fun _ _ => rfl))) pa_nil)) (pe_op op_mod (pv 3) pe_int) (fun _ _ => rfl)) pa_nil))) (pe_slice (sl_listK (K := K) rfl) (pv 0) (po_some (pe_op op_gAdd (pv 2) pe_int)) po_none)))) pss_nil)
        (pss_cons (ps_set (i := 6) sc__law_spoilt.nd rfl (Or.inl rfl) (pe_bm PySem.F.plainAttrs_str PySem.F.slot_str_split PySem.F.type_str_split mt_splitG (pe_ix (ix_seqK (K := K) rfl) (pv 0) (pv 2) (fun _ _ => rfl)) (pa_cons pe_str pa_nil)))
        (pss_cons (ps_set (i := 7) sc__law_spoilt.nd rfl (Or.inl rfl) (pe_op op_mod (pv 3) (pe_callB (call_lenK (K := K) rfl) (by rfl) (T.free 50) PySem.boot_len (pa_cons (pv 6) pa_nil))))
        (pss_cons (ps_set (i := 6) sc__law_spoilt.nd rfl (Or.inl rfl) (pe_op op_gAdd (pe_op op_gAdd (pe_slice (sl_listK (K := K) rfl) (pv 6) po_none (po_some (pv 7))) (pe_fn (takes_of rfl rfl rfl rfl) c__law_wrong_word (hr.mono (by decide)) (by rfl) (pa_cons (pe_ix (ix_seqK (K := K) rfl) (pv 6) (pv 7) (fun _ _ => rfl)) (pa_cons (pe_op op_fdiv (pv 3) (pe_callB (call_lenK (K := K) rfl) (by rfl) (T.free 50) PySem.boot_len (pa_cons (pv 6) pa_nil))) pa_nil)))) (pe_slice (sl_listK (K := K) rfl) (pv 6) (po_some (pe_op op_gAdd (pv 7) pe_int)) po_none)))
        (pss_one (ps_ret (pe_op op_gAdd (pe_op op_gAdd (pe_slice (sl_listK (K := K) rfl) (pv 0) po_none (po_some (pv 2))) (pe_lst (pa_cons (pe_bm PySem.F.plainAttrs_str PySem.F.slot_str_join PySem.F.type_str_join (mt_joinK (K := K) rfl) pe_str (pa_cons (pv 6) pa_nil)) pa_nil))) (pe_slice (sl_listK (K := K) rfl) (pv 0) (po_some (pe_op op_gAdd (pv 2) pe_int)) po_none)))))))))))))), ?rd⟩)
  case len => obtain ⟨_, _, _, rfl, _⟩ := h; rfl
  case rd =>
    obtain ⟨a, ls, c, rfl, ha, hl, ok, q⟩ := h
    have sz : 10000000 ≤ sizeLine := by rw [sizeLine_eq]; omega
    have has : ∀ p ∈ ls, ∀ c ∈ p, c < 128 := fun p mp c mc => ((ok p mp).2 c mc).1
    walk_at "wt"
    refine ⟨by omega, fun e0 ne0 => ?_⟩
    have s0 := same_new (o := .lst []) ne0
    refine r_eqNilS (s0 _ _ ha) upd_same has ?_
    have ha1 := s0 _ _ ha
    generalize upd H e0 (.lst []) = H1 at s0 ha1 ⊢
    refine ⟨_, rfl, ?_⟩
    by_cases c0 : ls = []
    · rw [decide_eq_true c0, if_pos rfl]
      refine ⟨by omega, fun pa na => ⟨by omega, fun pb nb => ⟨by omega, fun pc nc => ⟨by omega, fun pd nd => ⟨by omega, ?_⟩⟩⟩⟩⟩
      have sa := same_new (o := .lst [.str "end"]) na
      have sb := same_new (o := .lst [.str "", .str ""]) nb
      have sc := same_new (o := .lst [.str "tell"]) nc
      have sd := same_new (o := .lst [.str "if a"]) nd
      have h1 := sd _ _ (sc _ _ (sb _ _ (upd_same (H := H1) (a := pa) (o := .lst [.str "end"]))))
      have h2 := sd _ _ (sc _ _ (upd_same (H := upd H1 pa (.lst [.str "end"])) (a := pb) (o := .lst [.str "", .str ""])))
      have h3 := sd _ _ (upd_same (H := upd (upd H1 pa (.lst [.str "end"])) pb (.lst [.str "", .str ""])) (a := pc) (o := .lst [.str "tell"]))
      have h4 := upd_same (H := upd (upd (upd H1 pa (.lst [.str "end"])) pb (.lst [.str "", .str ""])) pc (.lst [.str "tell"])) (a := pd) (o := .lst [.str "if a"])
      have s5 := s0.trans (((sa.trans sb).trans sc).trans sd)
      generalize upd (upd (upd (upd H1 pa (.lst [.str "end"])) pb (.lst [.str "", .str ""])) pc (.lst [.str "tell"])) pd (.lst [.str "if a"]) = H2 at h1 h2 h3 h4 s5 ⊢
      have m4 := mod_lt (a := c) (n := 4) (by decide)
      have fin : ∀ (p : Addr) (xs : List V), H2 p = some (.lst xs) → xs.length ≤ 2 → xs.all (okT 9) = true → Q (.ref p) H2 := fun p xs hp hl2 hx => by
        obtain ⟨ls', e, o⟩ := okT_all hx
        refine q p ls' H2 s5 (by rw [hp, e]) (by rw [e, SgL_len] at hl2; omega) (o.mono (by decide))
      refine menu_all m4.1 m4.2 fun v mv => ?_
      simp only [List.mem_cons, List.not_mem_nil, or_false] at mv
      rcases mv with rfl | rfl | rfl | rfl
      · exact fin _ _ h1 (by decide) (by decide +kernel)
      · exact fin _ _ h2 (by decide) (by decide +kernel)
      · exact fin _ _ h3 (by decide) (by decide +kernel)
      · exact fin _ _ h4 (by decide) (by decide +kernel)
    rw [decide_eq_false c0, if_neg Bool.false_ne_true]
    have l0 : ls.length ≠ 0 := fun z => c0 (List.eq_nil_of_length_eq_zero z)
    refine r_lenL ha1 ?_
    rw [SgL_len]
    walk_at "wt"
    refine ⟨by omega, r_lenL ha1 ?_⟩
    rw [SgL_len]
    walk_at "wt"
    have mi := mod_lt (a := c / 8) (n := (ls.length : Int)) (by omega)
    obtain ⟨i, ei⟩ := Int.eq_ofNat_of_zero_le mi.1
    rw [ei] at mi ⊢
    have il : i < ls.length := by omega
    obtain ⟨li, eli⟩ : ∃ l, ls[i]? = some l := ⟨_, List.getElem?_eq_getElem il⟩
    have oli := ok li (List.mem_of_getElem? eli)
    generalize c / 8 / (ls.length : Int) = more
    have tk : OkL 800 (ls.take i) := ok.take
    have dk : OkL 800 (ls.drop (i + 1)) := ok.drop
    have tl : (ls.take i).length = i := by rw [List.length_take]; omega
    have dl : (ls.drop (i + 1)).length + i + 1 ≤ 100 := by rw [List.length_drop]; omega
    refine ⟨⟨by omega, by omega⟩, by omega, fun pt npt => ?_⟩
    have st := same_new (o := .tup [.int 0, .int 3, .int 4]) npt
    refine r_inT upd_same rfl rfl ?_
    have ha2 := st _ _ ha1
    have s2 := s0.trans st
    generalize upd H1 pt (.tup [.int 0, .int 3, .int 4]) = H2 at ha2 s2 ⊢
    refine ⟨_, rfl, ?_⟩
    split
    · refine r_lenL ha2 ?_
      rw [SgL_len]
      walk_at "wt"
      refine ⟨by omega, r_lenL ha2 ?_⟩
      rw [SgL_len]
      walk_at "wt"
      refine ⟨⟨by omega, by omega⟩, ?_⟩
      have mj := mod_lt (a := c / 8) (n := (ls.length : Int) + 1) (by omega)
      obtain ⟨j, ej⟩ := Int.eq_ofNat_of_zero_le mj.1
      rw [ej]
      refine ⟨by omega, fun pa npa => ?_⟩
      have sG1 := same_new (o := .lst [.str "end"]) npa
      have hpa : upd H2 pa (.lst [.str "end"]) pa = some (.lst [.str "end"]) := upd_same
      have ha2 := sG1 _ _ ha2
      have s2 := s2.trans sG1
      generalize upd H2 pa (.lst [.str "end"]) = G1 at ha2 hpa s2 ⊢
      clear sG1
      refine ⟨by omega, fun pb npb => ?_⟩
      have sG2 := same_new (o := .lst [.str ""]) npb
      have hpb : upd G1 pb (.lst [.str ""]) pb = some (.lst [.str ""]) := upd_same
      have ha2 := sG2 _ _ ha2
      have hpa := sG2 _ _ hpa
      have s2 := s2.trans sG2
      generalize upd G1 pb (.lst [.str ""]) = G2 at ha2 hpa hpb s2 ⊢
      clear sG2
      refine ⟨by omega, fun pc npc => ?_⟩
      have sG3 := same_new (o := .lst [.str "again 10", .str "end"]) npc
      have hpc : upd G2 pc (.lst [.str "again 10", .str "end"]) pc = some (.lst [.str "again 10", .str "end"]) := upd_same
      have ha2 := sG3 _ _ ha2
      have hpa := sG3 _ _ hpa
      have hpb := sG3 _ _ hpb
      have s2 := s2.trans sG3
      generalize upd G2 pc (.lst [.str "again 10", .str "end"]) = G3 at ha2 hpa hpb hpc s2 ⊢
      clear sG3
      refine ⟨by omega, fun pd npd => ?_⟩
      have sG4 := same_new (o := .lst [.str "if a"]) npd
      have hpd : upd G3 pd (.lst [.str "if a"]) pd = some (.lst [.str "if a"]) := upd_same
      have ha2 := sG4 _ _ ha2
      have hpa := sG4 _ _ hpa
      have hpb := sG4 _ _ hpb
      have hpc := sG4 _ _ hpc
      have s2 := s2.trans sG4
      generalize upd G3 pd (.lst [.str "if a"]) = G4 at ha2 hpa hpb hpc hpd s2 ⊢
      clear sG4
      refine ⟨by omega, fun pe npe => ?_⟩
      have sG5 := same_new (o := .lst [.str "tell if"]) npe
      have hpe : upd G4 pe (.lst [.str "tell if"]) pe = some (.lst [.str "tell if"]) := upd_same
      have ha2 := sG5 _ _ ha2
      have hpa := sG5 _ _ hpa
      have hpb := sG5 _ _ hpb
      have hpc := sG5 _ _ hpc
      have hpd := sG5 _ _ hpd
      have s2 := s2.trans sG5
      generalize upd G4 pe (.lst [.str "tell if"]) = G5 at ha2 hpa hpb hpc hpd hpe s2 ⊢
      clear sG5
      refine ⟨by omega, fun pf npf => ?_⟩
      have sG6 := same_new (o := .lst [.str "again -1", .str "end"]) npf
      have hpf : upd G5 pf (.lst [.str "again -1", .str "end"]) pf = some (.lst [.str "again -1", .str "end"]) := upd_same
      have ha2 := sG6 _ _ ha2
      have hpa := sG6 _ _ hpa
      have hpb := sG6 _ _ hpb
      have hpc := sG6 _ _ hpc
      have hpd := sG6 _ _ hpd
      have hpe := sG6 _ _ hpe
      have s2 := s2.trans sG6
      generalize upd G5 pf (.lst [.str "again -1", .str "end"]) = G6 at ha2 hpa hpb hpc hpd hpe hpf s2 ⊢
      clear sG6
      refine ⟨by omega, fun pg npg => ?_⟩
      have sG7 := same_new (o := .lst [.str "copy end a"]) npg
      have hpg : upd G6 pg (.lst [.str "copy end a"]) pg = some (.lst [.str "copy end a"]) := upd_same
      have ha2 := sG7 _ _ ha2
      have hpa := sG7 _ _ hpa
      have hpb := sG7 _ _ hpb
      have hpc := sG7 _ _ hpc
      have hpd := sG7 _ _ hpd
      have hpe := sG7 _ _ hpe
      have hpf := sG7 _ _ hpf
      have s2 := s2.trans sG7
      generalize upd G6 pg (.lst [.str "copy end a"]) = G7 at ha2 hpa hpb hpc hpd hpe hpf hpg s2 ⊢
      clear sG7
      refine ⟨by omega, fun po npo => ?_⟩
      have sG8 := same_new (o := .lst [V.ref pa, .ref pb, .ref pc, .ref pd, .ref pe, .ref pf, .ref pg]) npo
      have hpo : upd G7 po (.lst [V.ref pa, .ref pb, .ref pc, .ref pd, .ref pe, .ref pf, .ref pg]) po = some (.lst [V.ref pa, .ref pb, .ref pc, .ref pd, .ref pe, .ref pf, .ref pg]) := upd_same
      have ha2 := sG8 _ _ ha2
      have hpa := sG8 _ _ hpa
      have hpb := sG8 _ _ hpb
      have hpc := sG8 _ _ hpc
      have hpd := sG8 _ _ hpd
      have hpe := sG8 _ _ hpe
      have hpf := sG8 _ _ hpf
      have hpg := sG8 _ _ hpg
      have s2 := s2.trans sG8
      generalize upd G7 po (.lst [V.ref pa, .ref pb, .ref pc, .ref pd, .ref pe, .ref pf, .ref pg]) = G8 at ha2 hpa hpb hpc hpd hpe hpf hpg hpo s2 ⊢
      clear sG8
      have tpa : ∃ ms, G8 pa = some (.lst (SgL ms)) ∧ ms.length ≤ 2 ∧ OkL 20 ms := by
        obtain ⟨ms, e, o⟩ := okT_all (B := 20) (xs := [V.str "end"]) (by decide +kernel)
        exact ⟨ms, by rw [hpa, e], by have := congrArg List.length e; rw [SgL_len] at this; simp only [List.length_cons, List.length_nil] at this; omega, o⟩
      have tpb : ∃ ms, G8 pb = some (.lst (SgL ms)) ∧ ms.length ≤ 2 ∧ OkL 20 ms := by
        obtain ⟨ms, e, o⟩ := okT_all (B := 20) (xs := [V.str ""]) (by decide +kernel)
        exact ⟨ms, by rw [hpb, e], by have := congrArg List.length e; rw [SgL_len] at this; simp only [List.length_cons, List.length_nil] at this; omega, o⟩
      have tpc : ∃ ms, G8 pc = some (.lst (SgL ms)) ∧ ms.length ≤ 2 ∧ OkL 20 ms := by
        obtain ⟨ms, e, o⟩ := okT_all (B := 20) (xs := [V.str "again 10", V.str "end"]) (by decide +kernel)
        exact ⟨ms, by rw [hpc, e], by have := congrArg List.length e; rw [SgL_len] at this; simp only [List.length_cons, List.length_nil] at this; omega, o⟩
      have tpd : ∃ ms, G8 pd = some (.lst (SgL ms)) ∧ ms.length ≤ 2 ∧ OkL 20 ms := by
        obtain ⟨ms, e, o⟩ := okT_all (B := 20) (xs := [V.str "if a"]) (by decide +kernel)
        exact ⟨ms, by rw [hpd, e], by have := congrArg List.length e; rw [SgL_len] at this; simp only [List.length_cons, List.length_nil] at this; omega, o⟩
      have tpe : ∃ ms, G8 pe = some (.lst (SgL ms)) ∧ ms.length ≤ 2 ∧ OkL 20 ms := by
        obtain ⟨ms, e, o⟩ := okT_all (B := 20) (xs := [V.str "tell if"]) (by decide +kernel)
        exact ⟨ms, by rw [hpe, e], by have := congrArg List.length e; rw [SgL_len] at this; simp only [List.length_cons, List.length_nil] at this; omega, o⟩
      have tpf : ∃ ms, G8 pf = some (.lst (SgL ms)) ∧ ms.length ≤ 2 ∧ OkL 20 ms := by
        obtain ⟨ms, e, o⟩ := okT_all (B := 20) (xs := [V.str "again -1", V.str "end"]) (by decide +kernel)
        exact ⟨ms, by rw [hpf, e], by have := congrArg List.length e; rw [SgL_len] at this; simp only [List.length_cons, List.length_nil] at this; omega, o⟩
      have tpg : ∃ ms, G8 pg = some (.lst (SgL ms)) ∧ ms.length ≤ 2 ∧ OkL 20 ms := by
        obtain ⟨ms, e, o⟩ := okT_all (B := 20) (xs := [V.str "copy end a"]) (by decide +kernel)
        exact ⟨ms, by rw [hpg, e], by have := congrArg List.length e; rw [SgL_len] at this; simp only [List.length_cons, List.length_nil] at this; omega, o⟩
      have m7 := mod_lt (a := c / 8 / ((ls.length : Int) + 1)) (n := 7) (by decide)
      obtain ⟨k, ek⟩ := Int.eq_ofNat_of_zero_le m7.1
      have pick : ∀ k : Nat, k < 7 → ∃ m, [V.ref pa, .ref pb, .ref pc, .ref pd, .ref pe, .ref pf, .ref pg][k]? = some (.ref m) ∧ ∃ ms, G8 m = some (.lst (SgL ms)) ∧ ms.length ≤ 2 ∧ OkL 20 ms := fun k hk => by
        have : k = 0 ∨ k = 1 ∨ k = 2 ∨ k = 3 ∨ k = 4 ∨ k = 5 ∨ k = 6 := by omega
        rcases this with rfl | rfl | rfl | rfl | rfl | rfl | rfl
        all_goals exact ⟨_, rfl, by assumption⟩
      rw [ek] at m7 ⊢
      obtain ⟨m, em, ms, hm, lm, om⟩ := pick k (by omega)
      refine r_sl_to ha2 fun px npx => ?_
      have sx := same_new (o := .lst (SgL (ls.take j))) npx
      refine r_ixL (i := k) (sx _ _ hpo) em ?_
      refine r_tail upd_same (sx _ _ hm) (sx _ _ ha2) (by rw [List.length_take]; omega) fun p H' s' hp => q p _ H' (s2.trans (sx.trans s')) hp ?_ ?_
      · rw [List.length_append, List.length_append, List.length_take, List.length_drop]
        omega
      · exact ((ok.take.mono (by decide)).app (om.mono (by decide))).app (ok.drop.mono (by decide))
    walk_at "wt"
    have e1 : (i : Int) + 1 = ((i + 1 : Nat) : Int) := by omega
    simp only [e1]
    have mono : OkL 3000 (ls.take i) ∧ OkL 3000 (ls.drop (i + 1)) := ⟨tk.mono (by decide), dk.mono (by decide)⟩
    refine ite_dup (fun _ _ => ⟨by omega, fun p np => ?_⟩) ?_
    · have sp := same_new (o := .lst [.str ""]) np
      refine ⟨_, _, sp _ _ ha2, upd_same, by rw [SgL_len]; show _ + 1 ≤ _; omega, fun p2 np2 => ?_⟩
      refine q p2 (ls ++ [[]]) _ (s2.trans (sp.trans (same_new np2))) ?_ (by rw [List.length_append]; show _ + 1 ≤ _; omega) ((ok.mono (by decide)).app (.one (Nat.zero_le _) fun c m => (List.not_mem_nil m).elim))
      rw [upd_same, ← SgL_appN, ← bodyP_lit.2.1]
      rfl
    split
    · refine r_sl_to ha2 fun px npx => ?_
      have sx := same_new (o := .lst (SgL (ls.take i))) npx
      refine r_sl_from (sx _ _ ha2) fun py npy => ?_
      have sy := same_new (o := .lst (SgL (ls.drop (i + 1)))) npy
      refine ⟨_, _, sy _ _ upd_same, upd_same, by rw [SgL_len, SgL_len]; omega, fun p np => ?_⟩
      exact q p (ls.take i ++ ls.drop (i + 1)) _ (s2.trans ((sx.trans sy).trans (same_new np))) (by rw [upd_same, SgL_appN]) (by rw [List.length_append]; omega) (mono.1.app mono.2)
    split
    · refine r_sl_to ha2 fun px npx => ?_
      have sx := same_new (o := .lst (SgL (ls.take i))) npx
      have hx : upd H2 px (.lst (SgL (ls.take i))) px = some (.lst (SgL (ls.take i))) := upd_same
      have ha3 := sx _ _ ha2
      have s3 := s2.trans sx
      generalize upd H2 px (.lst (SgL (ls.take i))) = H3 at hx ha3 s3 ⊢
      refine r_ixL (i := i) ha3 (SgL_at eli) ?_
      rw [blank_lit]
      walk_at "wt"
      rw [Sg_add]
      refine ⟨by rw [Sg_len, Sg_len]; show _ + 1 ≤ _; omega, r_ixL (i := i) ha3 (SgL_at eli) ?_⟩
      walk_at "wt"
      rw [Sg_add]
      have m2 := mod_lt (a := more) (n := 2) (by decide)
      refine ⟨by rw [Sg_len, Sg_len]; show 1 + _ ≤ _; omega, by omega, menu_all m2.1 m2.2 fun v mv => ⟨by omega, fun p np => ?_⟩⟩
      obtain ⟨z, rfl, lz, az⟩ : ∃ z : Ln, v = .str (Sg z) ∧ z.length ≤ 801 ∧ Asc z := by
        have a32 : Asc [32] := by unfold Asc; decide
        simp only [List.mem_cons, List.not_mem_nil, or_false] at mv
        rcases mv with rfl | rfl
        · exact ⟨_, rfl, by rw [List.length_append]; show _ + 1 ≤ _; omega, oli.2.app a32⟩
        · exact ⟨_, rfl, by rw [List.length_append]; show 1 + _ ≤ _; omega, a32.app oli.2⟩
      have sp := same_new (o := .lst [.str (Sg z)]) np
      refine r_tail (ms := [z]) (sp _ _ hx) upd_same (sp _ _ ha3) (by show _ + 1 + _ ≤ _; omega) fun p2 H' s' hp => q p2 _ H' (s3.trans (sp.trans s')) hp ?_ ?_
      · rw [List.length_append, List.length_append]
        show _ + 1 + _ ≤ _
        omega
      · exact (mono.1.app (.one (by omega) az)).app mono.2
    refine r_ixL (i := i) ha2 (SgL_at eli) ⟨rfl, ?_⟩
    rw [blank_lit]
    refine r_split (by decide) (by omega) fun pw npw => ?_
    have sw := same_new (o := .lst (SgL (TL.spl [32] 0 [] li))) npw
    have hw : upd H2 pw (.lst (SgL (TL.spl [32] 0 [] li))) pw = some (.lst (SgL (TL.spl [32] 0 [] li))) := upd_same
    have ha3 := sw _ _ ha2
    have s3 := s2.trans sw
    have lsp := spl_le (s := 32) (l := li) (acc := [])
    have wne := spl_ne (s := 32) (l := li) (acc := [])
    have wsum := spl_sum (s := 32) (l := li) (acc := [])
    rw [List.length_nil, Nat.zero_add] at wsum
    have wasc : ∀ p ∈ TL.spl [32] 0 [] li, Asc p := fun p mp c mc => oli.2 c (spl_sub (List.not_mem_nil (a := c)) p mp mc)
    generalize TL.spl [32] 0 [] li = ws at hw ha3 s3 lsp wne wasc wsum ⊢
    generalize upd H2 pw (.lst (SgL ws)) = H3 at hw ha3 s3 ⊢
    clear sw
    have wl0 : ws.length ≠ 0 := fun z => wne (List.eq_nil_of_length_eq_zero z)
    refine r_lenL hw ?_
    rw [SgL_len]
    walk_at "wt"
    have mk := mod_lt (a := more) (n := (ws.length : Int)) (by omega)
    obtain ⟨k, ek⟩ := Int.eq_ofNat_of_zero_le mk.1
    rw [ek] at mk ⊢
    have kl : k < ws.length := by omega
    obtain ⟨wk, ewk⟩ : ∃ l, ws[k]? = some l := ⟨_, List.getElem?_eq_getElem kl⟩
    have mwk := List.mem_of_getElem? ewk
    have lwk := lsp.2 wk mwk
    rw [List.length_nil] at lwk
    refine ⟨by omega, r_sl_to hw fun px npx => ?_⟩
    have sx := same_new (o := .lst (SgL (ws.take k))) npx
    have hx : upd H3 px (.lst (SgL (ws.take k))) px = some (.lst (SgL (ws.take k))) := upd_same
    have hw4 := sx _ _ hw
    have ha4 := sx _ _ ha3
    have s4 := s3.trans sx
    generalize upd H3 px (.lst (SgL (ws.take k))) = H4 at hx hw4 ha4 s4 ⊢
    refine r_ixL (i := k) hw4 (SgL_at ewk) (r_lenL hw4 ?_)
    rw [SgL_len]
    walk_at "wt"
    refine ⟨⟨by omega, by omega⟩, wk, _, rfl, by omega, wasc wk mwk, fun pm ms H5 s5 hm lm om => ?_⟩
    simp only [show (k : Int) + 1 = ((k + 1 : Nat) : Int) from by omega]
    refine r_tail (s5 _ _ hx) hm (s5 _ _ hw4) (by rw [List.length_take]; omega) fun pn H6 s6 hn => ?_
    refine r_sl_to (s6 _ _ (s5 _ _ ha4)) fun py npy => ?_
    have sy := same_new (o := .lst (SgL (ls.take i))) npy
    have s7 := s4.trans (s5.trans (s6.trans sy))
    have ha7 := sy _ _ (s6 _ _ (s5 _ _ ha4))
    have hy : upd H6 py (.lst (SgL (ls.take i))) py = some (.lst (SgL (ls.take i))) := upd_same
    have hn7 := sy _ _ hn
    generalize upd H6 py (.lst (SgL (ls.take i))) = H7 at s7 ha7 hy hn7 ⊢
    have nl : (ws.take k ++ ms ++ ws.drop (k + 1)).length ≤ ws.length + 2 := by
      rw [List.length_append, List.length_append, List.length_take, List.length_drop]
      omega
    have sms := sumlen_le (B := wk.length + 10) (ps := ms) fun x m => (om x m).1
    have sms2 : ms.length * (wk.length + 10) ≤ 2 * (wk.length + 10) := Nat.mul_le_mul_right _ lm
    have st := sum_td (f := List.length) (ps := ws) (k := k)
    have sn : ((ws.take k ++ ms ++ ws.drop (k + 1)).map List.length).sum ≤ (ws.map List.length).sum + (ms.map List.length).sum := by
      rw [List.map_append, List.map_append, List.sum_append, List.sum_append]
      omega
    have wss : (ws.map List.length).sum + ws.length ≤ 801 := by omega
    have oasc : Asc (TL.joinL [32] (ws.take k ++ ms ++ ws.drop (k + 1))) := fun c mc => by
      rcases joinL_mem mc with m | ⟨p, mp, m⟩
      · rw [List.mem_singleton.mp m]
        decide
      · rcases List.mem_append.mp mp with mp | mp
        · rcases List.mem_append.mp mp with mp | mp
          · exact wasc p (List.mem_of_mem_take mp) c m
          · exact (om p mp).2 c m
        · exact wasc p (List.mem_of_mem_drop mp) c m
    have jl := joinL_le (sep := [32]) (ps := ws.take k ++ ms ++ ws.drop (k + 1))
    have jl : (TL.joinL [32] (ws.take k ++ ms ++ ws.drop (k + 1))).length ≤ ((ws.take k ++ ms ++ ws.drop (k + 1)).map List.length).sum + (ws.take k ++ ms ++ ws.drop (k + 1)).length * 1 := jl
    refine ⟨rfl, r_join (sep := [32]) (.of hn7) (by show _ + _ * 1 ≤ _; omega) ⟨by omega, fun pq npq => ?_⟩⟩
    generalize TL.joinL [32] (ws.take k ++ ms ++ ws.drop (k + 1)) = z at jl oasc ⊢
    have sq := same_new (o := .lst [.str (Sg z)]) npq
    refine r_tail (ms := [z]) (sq _ _ hy) upd_same (sq _ _ ha7) (by show _ + 1 + _ ≤ _; omega) fun p2 H' s' hp => q p2 _ H' (s7.trans (sq.trans s')) hp ?_ ?_
    · rw [List.length_append, List.length_append]
      show _ + 1 + _ ≤ _
      omega
    · exact (mono.1.app (.one (by omega) oasc)).app mono.2
end

local macro_rules | `(tactic| walk_at "wt") => `(tactic| try simp only [↓x_var0, ↓x_varS, ↓x_c, ↓x_op, ↓x_un, ↓x_cb, ↓x_nil, ↓x_cons, ↓x_test, ↓x_b, ↓x_ex, ↓x_and, ↓x_or, ↓x_not, ↓x_andV, ↓x_orV, ↓x_notV, ↓x_tif, ↓x_chain, ↓x_menu, ↓x_menuI, ↓x_lst, ↓x_tup, ↓x_dnew, ↓x_callW, ↓x_callN, ↓x_seq, ↓x_next, ↓x_ret, ↓x_retN, ↓x_drop, ↓x_ifS, ↓x_asg, ↓x_name, ↓x_raise, ↓x_fld, ↓x_setF, ↓x_meth, ↓x_make, ↓x_sub, ↓r_min, ↓r_max, ↓x_yes, ↓x_for, ↓x_lock, ↓x_keys, ↓x_cut, ↓x_lc, ↓x_rng1, ↓x_rng2, ↓x_lst1, ↓x_itup, ↓x_rng3, ↓x_three, ↓x_lstg, ↓x_tupg, ↓x_adrS, ↓x_one, ↓x_two, ↓x_adr, ↓x_sl, ↓x_np, ↓x_pt, ↓x_int, ↓x_bm, ↓x_bm0, ↓x_consg, ↓x_nilg, ↓x_dget2, ↓x_dget1, ↓x_dgetN, ↓x_dget, ↓x_din, ↓x_dni, ↓x_dput, ↓x_dpop2, ↓r_isB, ↓r_notB, ↓x_enum, ↓x_zip, ↓x_str, ↓x_strE, ↓r_inS, ↓r_ninS, wipe, List.map_cons, List.map_nil, ↓x_isT, ↓r_isiII, ↓r_isiBB, ↓r_isiIB, ↓r_isiSS, ↓r_neNS, ↓r_neSN, ↓r_neNN, ↓r_eqNS, ↓r_eqSN, ↓r_eqNN, ↓r_eqIS, ↓r_neIS, ↓r_neSI, ↓r_neBS, ↓r_eqBB, ↓r_neBB, ↓x_start, ↓x_K, ↓x_start0, ↓r_i0, ↓r_i, ↓r_u, ↓r_addI, ↓r_addS, ↓r_mulI, ↓r_mulS, ↓r_eqI, ↓r_neI, ↓r_eqS, ↓r_neS, ↓r_absI, ↓r_intI, ↓r_intB, List.length_cons, List.length_nil, List.replicate, List.set_cons_zero, List.set_cons_succ, decide_eq_true_eq, Bool.not_eq_true', decide_eq_false_iff_not, if_true, if_false, Bool.false_eq_true, Bool.true_eq_false, ite_true, ite_false, Bool.not_true, Bool.not_false, c_div, n_ten, c_pow, not_true_eq_false, not_false_eq_true, decide_true, decide_false, true_and, and_true, and_self, true_or, or_true, Int.reduceLT, Int.reduceLE, Int.reduceMul, Int.reduceAdd, Int.reduceSub, Int.reducePow, Int.reduceNeg, Int.reduceDiv, Int.reduceMod, Nat.reducePow, Int.reduceToNat, Int.reduceEq, Int.reduceNe, Nat.reduceLT, Nat.reduceLeDiff, Nat.reduceAdd, ↓x_whole, ↓r_repS, ↓r_repS, ↓r_repS, ↓r_repS, ↓r_repS, ↓r_repS, ↓x_zipS, ↓r_repS, ↓r_repS, ↓r_repS, ↓r_repS, ↓r_repS, ↓r_repS, ↓r_repS, ↓r_repS, ↓r_repS, ↓x_disp, ↓x_pnil, ↓x_pcons])
def sp_law (K : PySem.W.Frag) : Sp := fun vs H Q _ => ∃ (a : Addr) (ns : List Int), vs = [.ref a] ∧ SqL K H a (ns.map V.int) ∧ ns.length ≤ 63 ∧ ∀ H', Q (.bl true) H'
theorem spl_end {s : Nat} : ∀ {l acc : List Nat}, TL.spl [s] 0 acc (l ++ [s]) = TL.spl [s] 0 acc l ++ [[]]
  | [], acc => by
    show TL.spl [s] 0 acc (s :: []) = _
    rw [spl_cons, if_pos rfl, TL.spl_nil, TL.spl_nil]
    rfl
  | c :: l, acc => by
    show TL.spl [s] 0 acc (c :: (l ++ [s])) = _
    rw [spl_cons, spl_cons]
    split
    · rw [spl_end (l := l) (acc := [])]
      rfl
    · rw [spl_end (l := l)]
theorem stm_nil : stmL [] = none := by decide
theorem bad_end {t : Ln} : ¬ goodL (linesT (t ++ [10])) := by
  intro g
  have h := g.1
  unfold linesT at h
  rw [spl_end, scan_app] at h
  cases e : scan 0 (TL.spl [10] 0 [] t) with
  | none => rw [e] at h; cases h
  | some d =>
    rw [e] at h
    have h : scan d [[]] = some 0 := h
    rw [scan_cons, stm_nil] at h
    cases h
theorem allN_asc {ls : List Ln} (h : scan 0 ls = some 0) (g : ∀ p ∈ ls, ∀ c ∈ p, c < 128) : ∀ p ∈ dd (allN ls), ∀ c ∈ p, c < 128 := fun p m c mc => by
  rcases addW_mem.mp m with m | m
  · exact (List.not_mem_nil m).elim
  · rw [← lawN_eq (scan_stm h)] at m
    obtain ⟨l, ml, mp⟩ := List.mem_flatMap.mp m
    exact g l ml c (spl_sub (List.not_mem_nil (a := c)) p (List.mem_of_mem_drop (List.mem_filter.mp mp).1) mc)
section
variable {P : Program} {w : World} {K : PySem.W.Frag} {mg : Str → Option Value} {base : Heap}
theorem f_law (T : Tx K mg) : Fn P w K mg base 11 "law" ["_law_script"] (sp_law K) := by
  have c__law_lines := f__law_lines (P := P) (w := w) (base := base) T
  have c__law_at := f__law_at (P := P) (w := w) (base := base) T
  have c__law_spoilt := f__law_spoilt (P := P) (w := w) (base := base) T
  have c__law_refused := f__law_refused (P := P) (w := w) (base := base) T
  have c__law_good := f__law_good (P := P) (w := w) (base := base) T
  have c_names_of := f_names_of (P := P) (w := w) (base := base) T 5
  have c_program_of := f_program_of (P := P) (w := w) (base := base) T
  have c__law_written := f__law_written (P := P) (w := w) (base := base) T 5
  have c__law_names := f__law_names (P := P) (w := w) (base := base) T
  refine T.mkFn 27 41 (d := d_law) (N := ["_law_script", "_law_lines_here", "_law_text", "_law_found", "_law_names_here", "_law_again", "_law_more"]) (k := 10) rfl rfl rfl rfl rfl sc_law (fun _ _ _ _ _ _ us hl => match us, hl with | [_], _ => rfl) (fun vs H Q E h => ?len) (fun cdv A outer s H vs Q E hr h => ⟨_,
      (pss_cons (ps_set (i := 1) sc_law.nd rfl (Or.inl rfl) (pe_fn (takes_of rfl rfl rfl rfl) c__law_lines (hr.mono (by decide)) (by rfl) (pa_cons (pv 0) pa_nil)))
        (pss_cut (ps_if (pt_cmpR (op_eqK (K := K) rfl hr.units) (pe_op op_mod (pe_fn (takes_of rfl rfl rfl rfl) c__law_at (hr.mono (by decide)) (by rfl) (pa_cons (pv 0) (pa_cons pe_int pa_nil))) pe_int) pe_int (nomark _)) (pss_one (ps_set (i := 1) sc_law.nd rfl (Or.inl rfl) (pe_fn (takes_of rfl rfl rfl rfl) c__law_spoilt (hr.mono (by decide)) (by rfl) (pa_cons (pv 1) (pa_cons (pe_op op_mod (pe_op op_gMul (pe_op op_gAdd (pe_op op_fdiv (pe_fn (takes_of rfl rfl rfl rfl) c__law_at (hr.mono (by decide)) (by rfl) (pa_cons (pv 0) (pa_cons pe_int pa_nil))) pe_int) pe_int) pe_int) pe_int) pa_nil))))) pss_nil)
        (pss_cons (ps_set (i := 2) sc_law.nd rfl (Or.inl rfl) (pe_bm PySem.F.plainAttrs_str PySem.F.slot_str_join PySem.F.type_str_join (mt_joinK (K := K) rfl) pe_str (pa_cons (pv 1) pa_nil)))
        (pss_cons (ps_if (pt_not (pt_val (pe_fn (takes_of rfl rfl rfl rfl) c__law_refused (hr.mono (by decide)) (by rfl) (pa_cons (pe_menu (pa_cons pe_non (pa_cons pe_int (pa_cons (pe_lst (pa_cons pe_str pa_nil)) (pa_cons (pe_disp (pps_cons pe_str pe_str pps_nil) rfl rfl (by decide) (by decide)) (pa_cons pe_bl (pa_cons (pe_tup (pa_cons pe_str pa_nil)) pa_nil)))))) (pe_op op_mod (pe_fn (takes_of rfl rfl rfl rfl) c__law_at (hr.mono (by decide)) (by rfl) (pa_cons (pv 0) (pa_cons pe_int pa_nil))) pe_int) (fun _ _ => rfl)) pa_nil)))) (pss_one (ps_ret pe_bl)) pss_nil)
        (pss_cons (ps_if (pt_not (pt_val (pe_fn (takes_of rfl rfl rfl rfl) c__law_refused (hr.mono (by decide)) (by rfl) (pa_cons (pe_op op_gAdd (pv 2) pe_str) pa_nil)))) (pss_one (ps_ret pe_bl)) pss_nil)
        (pss_cons (ps_if (PW.pt (pw_and (pt_cmpR (op_neK (K := K) rfl hr.units) (pv 2) pe_str (nomark _)) (pw_and1 (pt_not (pt_val (pe_fn (takes_of rfl rfl rfl rfl) c__law_good (hr.mono (by decide)) (by rfl) (pa_cons (pv 1) pa_nil))))))) (pss_one (ps_ret (pe_and (pe_fn (takes_of rfl rfl rfl rfl) c__law_refused (hr.mono (by decide)) (by rfl) (pa_cons (pv 2) pa_nil)) (pe_one (pe_fn (takes_of rfl rfl rfl rfl) c__law_refused (hr.mono (by decide)) (by rfl) (pa_cons (pv 2) pa_nil)))))) pss_nil)
        (pss_cons (ps_if (pt_cmpR (op_eqK (K := K) rfl hr.units) (pv 2) pe_str (nomark _)) (pss_one (ps_ret (pe_and (pe_cmpR (op_eqK (K := K) rfl hr.units) (pe_fn (takes_of rfl rfl rfl rfl) c_program_of (hr.mono (by decide)) (by rfl) (pa_cons (pv 2) pa_nil)) (pe_lst pa_nil) (nomark _)) (pe_one (pe_cmpR (op_eqK (K := K) rfl hr.units) (pe_fn (takes_of rfl rfl rfl rfl) c_names_of (hr.mono (by decide)) (by rfl) (pa_cons (pe_lst pa_nil) pa_nil)) (pe_lst pa_nil) (nomark _)))))) pss_nil)
        (pss_cons (ps_set (i := 3) sc_law.nd rfl (Or.inl rfl) (pe_fn (takes_of rfl rfl rfl rfl) c_program_of (hr.mono (by decide)) (by rfl) (pa_cons (pv 2) pa_nil)))
        (pss_cons (ps_if (pt_cmpR (op_neK (K := K) rfl hr.units) (pe_fn (takes_of rfl rfl rfl rfl) c__law_written (hr.mono (by decide)) (by rfl) (pa_cons (pv 3) pa_nil)) (pv 1) (nomark _)) (pss_one (ps_ret pe_bl)) pss_nil)
        (pss_cons (ps_set (i := 4) sc_law.nd rfl (Or.inl rfl) (pe_fn (takes_of rfl rfl rfl rfl) c_names_of (hr.mono (by decide)) (by rfl) (pa_cons (pv 3) pa_nil)))
        (pss_cons (ps_if (PW.pt (pw_or (pt_not (pt_val (pe_callB call_gIsi (by rfl) (T.free 49) (by decide +kernel) (pa_cons (pv 4) (pa_cons (pe_ty (T := "list") (T.free 56) (by decide +kernel) (by rfl)) pa_nil))))) (pw_or1 (pt_cmpR (op_neK (K := K) rfl hr.units) (pv 4) (pe_fn (takes_of rfl rfl rfl rfl) c__law_names (hr.mono (by decide)) (by rfl) (pa_cons (pv 1) pa_nil)) (nomark _))))) (pss_one (ps_ret pe_bl)) pss_nil)
        (pss_cons (ps_set (i := 5) sc_law.nd rfl (Or.inl rfl) (pe_fn (takes_of rfl rfl rfl rfl) c_program_of (hr.mono (by decide)) (by rfl) (pa_cons (pv 2) pa_nil)))
        (pss_cons (ps_set (i := 6) sc_law.nd rfl (Or.inl rfl) (pe_fn (takes_of rfl rfl rfl rfl) c_names_of (hr.mono (by decide)) (by rfl) (pa_cons (pv 5) pa_nil)))
        (pss_cons (ps_if (PW.pt (pw_or (pt_cmpR (op_neK (K := K) rfl hr.units) (pe_fn (takes_of rfl rfl rfl rfl) c__law_written (hr.mono (by decide)) (by rfl) (pa_cons (pv 3) pa_nil)) (pv 1) (nomark _)) (pw_or1 (pt_cmpR (op_neK (K := K) rfl hr.units) (pv 4) (pe_fn (takes_of rfl rfl rfl rfl) c__law_names (hr.mono (by decide)) (by rfl) (pa_cons (pv 1) pa_nil)) (nomark _))))) (pss_one (ps_ret pe_bl)) pss_nil)
        (pss_cons (ps_expr (pe_bm0 PySem.F.plainAttrs_list PySem.F.slot_list_clear PySem.F.type_list_clear G.mt_clear (pv 3)))
        (pss_cons (ps_expr (pe_bm PySem.F.plainAttrs_list PySem.F.slot_list_append PySem.F.type_list_append mt_append (pv 4) (pa_cons pe_str pa_nil)))
        (pss_cons (ps_if (PW.pt (pw_or (pt_cmpR (op_neK (K := K) rfl hr.units) (pe_fn (takes_of rfl rfl rfl rfl) c__law_written (hr.mono (by decide)) (by rfl) (pa_cons (pv 5) pa_nil)) (pv 1) (nomark _)) (pw_or1 (pt_cmpR (op_neK (K := K) rfl hr.units) (pv 6) (pe_fn (takes_of rfl rfl rfl rfl) c__law_names (hr.mono (by decide)) (by rfl) (pa_cons (pv 1) pa_nil)) (nomark _))))) (pss_one (ps_ret pe_bl)) pss_nil)
        (pss_one (ps_ret (pe_and (pe_cmpR (op_eqK (K := K) rfl hr.units) (pe_fn (takes_of rfl rfl rfl rfl) c__law_written (hr.mono (by decide)) (by rfl) (pa_cons (pe_fn (takes_of rfl rfl rfl rfl) c_program_of (hr.mono (by decide)) (by rfl) (pa_cons (pv 2) pa_nil)) pa_nil)) (pv 1) (nomark _)) (pe_one (pe_cmpR (op_eqK (K := K) rfl hr.units) (pe_fn (takes_of rfl rfl rfl rfl) c_names_of (hr.mono (by decide)) (by rfl) (pa_cons (pv 5) pa_nil)) (pe_fn (takes_of rfl rfl rfl rfl) c__law_names (hr.mono (by decide)) (by rfl) (pa_cons (pv 1) pa_nil)) (nomark _))))))))))))))))))))))), ?rd⟩)
  case len => obtain ⟨_, _, rfl, _⟩ := h; rfl
  case rd =>
    obtain ⟨a, ns, rfl, hS, hl, q⟩ := h
    have sz : 16000000 ≤ sizeLine := by rw [sizeLine_eq]; omega
    walk_at "wt"
    refine ⟨a, ns, rfl, hS, fun p0 l0 H0 s0 hp0 hl0 ok0 => ?_⟩
    refine ⟨fun σ' H1 => ∃ p ls, σ' = [some (.ref a), some (.ref p), none, none, none, none, none] ∧ Same H H1 ∧ H1 p = some (.lst (SgL ls)) ∧ ls.length ≤ 110 ∧ OkL 3000 ls, ?_, ?_⟩
    · refine ⟨a, 3, ns, rfl, s0.seq hS, by decide, ?_⟩
      walk_at "wt"
      split
      · refine ⟨a, 3, ns, rfl, s0.seq hS, by decide, ?_⟩
        walk_at "wt"
        exact ⟨p0, l0, _, rfl, hp0, hl0, ok0, fun p ls H1 s1 hp hl ok => ⟨p, ls, rfl, s0.trans s1, hp, hl, ok⟩⟩
      · exact ⟨p0, l0, rfl, s0, hp0, by omega, ok0.mono (by decide)⟩
    clear hp0 ok0 hl0 s0 H0
    rintro σ' H0 ⟨pl, ls, rfl, s0, hpl, lls, ok⟩
    walk_at "wt"
    rw [lits2.2.2.2.2.2.2.2]
    have sumB := sumlen_le (B := 3000) (ps := ls) fun x m => (ok x m).1
    have sumB2 : ls.length * 3000 ≤ 110 * 3000 := Nat.mul_le_mul_right _ lls
    have jle := joinL_le (sep := [10]) (ps := ls)
    have jle : (TL.joinL [10] ls).length ≤ (ls.map List.length).sum + ls.length * 1 := jle
    refine ⟨rfl, r_join (sep := [10]) (.of hpl) (by show _ + _ * 1 ≤ _; omega) ⟨by omega, fun pa npa => ?_⟩⟩
    have hasc : ∀ p ∈ ls, ∀ c ∈ p, c < 128 := fun p mp c mc => ((ok p mp).2 c mc).1
    have lnT : TL.joinL [10] ls ≠ [] → linesT (TL.joinL [10] ls) = ls := fun n => TL.spl_join (s := 10) (S := []) (parts := ls) (fun z => n (by rw [z]; rfl)) fun p m c => ((ok p m).2 10 c).2 rfl
    have lT : (TL.joinL [10] ls).length ≤ 400000 := by omega
    generalize TL.joinL [10] ls = T at lnT lT ⊢
    clear jle sumB sumB2
    have lnl : (linesT T).length ≤ 110 := by
      by_cases z : T = []
      · subst z
        show (TL.spl [10] 0 [] []).length ≤ 110
        rw [TL.spl_nil]
        decide
      · rw [lnT z]
        exact lls
    have sa := same_new (o := .lst [.str "tell a"]) npa
    have hpa : upd H0 pa (.lst [.str "tell a"]) pa = some (.lst [.str "tell a"]) := upd_same
    have s1 := s0.trans sa
    have hpl1 := sa _ _ hpl
    generalize upd H0 pa (.lst [.str "tell a"]) = H1 at hpa s1 hpl1 ⊢
    clear sa hpl npa s0
    walk_at "wt"
    intro pd npd
    refine ⟨upd_same, [((.inr "tell" : Key), V.str "a")], rfl, by decide, ?_⟩
    rw [upd_upd]
    have sd := same_new (o := .dK (mergeK [] [((.inr "tell" : Key), V.str "a")])) npd
    have hpd : upd H1 pd (.dK (mergeK [] [((.inr "tell" : Key), V.str "a")])) pd = some (.dK (mergeK [] [((.inr "tell" : Key), V.str "a")])) := upd_same
    have s2 := s1.trans sd
    have hpa2 := sd _ _ hpa
    have hpl2 := sd _ _ hpl1
    generalize upd H1 pd (.dK (mergeK [] [((.inr "tell" : Key), V.str "a")])) = H2 at hpd s2 hpa2 hpl2 ⊢
    clear sd hpa hpl1 s1 npd
    refine ⟨by omega, fun pt npt => ⟨by omega, ?_⟩⟩
    have st := same_new (o := .tup [.str "tell a"]) npt
    have hpt : upd H2 pt (.tup [.str "tell a"]) pt = some (.tup [.str "tell a"]) := upd_same
    have s3 := s2.trans st
    have hpa3 := st _ _ hpa2
    have hpd3 := st _ _ hpd
    have hpl3 := st _ _ hpl2
    generalize upd H2 pt (.tup [.str "tell a"]) = H3 at hpt s3 hpa3 hpl3 hpd3 ⊢
    clear st hpa2 hpl2 hpd s2 npt
    refine ⟨a, 3, ns, rfl, s3.seq hS, by decide, ?_⟩
    walk_at "wt"
    have m6 := mod_lt (a := cell ns 3) (n := 6) (by decide)
    refine menu_all m6.1 m6.2 fun v mv => ?_
    have hv : ∃ ty, tyOf v H3 = some ty ∧ ty ≠ "str" := by
      simp only [List.mem_cons, List.not_mem_nil, or_false] at mv
      rcases mv with rfl | rfl | rfl | rfl | rfl | rfl
      · exact ⟨"NoneType", rfl, by decide⟩
      · exact ⟨"int", rfl, by decide⟩
      · exact ⟨"list", by show tyO (H3 pa) = _; rw [hpa3]; rfl, by decide⟩
      · exact ⟨"dict", by show tyO (H3 pd) = _; rw [hpd3]; rfl, by decide⟩
      · exact ⟨"bool", rfl, by decide⟩
      · exact ⟨"tuple", by show tyO (H3 pt) = _; rw [hpt]; rfl, by decide⟩
    refine ⟨v, rfl, .inr hv, fun H4 s4 => ?_⟩
    walk_at "wt"
    rw [Sg_add]
    have hpl4 := s4 _ _ hpl3
    have s04 := s3.trans s4
    clear hv mv v hpa3 hpd3 hpt hpl3 s3 s4
    refine ⟨by rw [Sg_len, Sg_len]; show _ + 1 ≤ _; omega, _, rfl, .inl ⟨T ++ [10], rfl, by rw [List.length_append]; show _ + 1 ≤ _; omega, List.append_ne_nil_of_right_ne_nil _ (List.cons_ne_nil _ _), ?_, bad_end⟩, fun H5 s5 => ?_⟩
    · show (TL.spl [10] 0 [] (T ++ [10])).length ≤ 1000
      rw [spl_end, List.length_append]
      have : (TL.spl [10] 0 [] T).length ≤ 110 := lnl
      show _ + 1 ≤ _
      omega
    walk_at "wt"
    have hpl5 := s5 _ _ hpl4
    have s05 := s04.trans s5
    clear hpl4 s04 s5
    rw [lits2.2.2.2.2.2.2.1]
    simp only [Sg_inj]
    by_cases tn : T = []
    · rw [if_neg (fun z => z tn), if_pos tn]
      subst tn
      refine .inl ⟨[], rfl, by decide, .inl ⟨rfl, fun p H6 np s6 hp => ⟨by omega, fun e ne => ?_⟩⟩⟩
      have se := same_new (o := .lst []) ne
      refine r_eqNilS (ps := []) (se _ _ hp) upd_same (fun p m => (List.not_mem_nil m).elim) ?_
      refine ⟨_, rfl, ?_⟩
      rw [decide_eq_true rfl, if_pos rfl]
      refine ⟨by omega, fun e2 ne2 => ?_⟩
      refine ⟨e2, [], fun _ => True, 0, by decide, rfl, ⟨trivial, [], upd_same, rfl⟩, by decide, fun n H7 nn s7 hn => ⟨by omega, fun e3 ne3 => ?_⟩⟩
      exact r_eqNilS (ps := []) ((same_new ne3) _ _ hn) upd_same (fun p m => (List.not_mem_nil m).elim) (q _)
    rw [if_pos tn]
    have lok : ∀ l ∈ ls, l.length ≤ 10000 ∧ ∀ c ∈ l, c < 128 := fun l m => ⟨by have := (ok l m).1; omega, hasc l m⟩
    refine ⟨pl, ls, rfl, hpl5, by omega, lok, fun H6 s6 => ⟨_, rfl, ?_⟩⟩
    have hpl6 := s6 _ _ hpl5
    by_cases g : goodL ls
    case neg =>
      rw [show goodB ls = false from decide_eq_false g, if_pos rfl]
      have rf : ∀ (Q' : VK) (H7 : Hp), (∀ H8, Same H7 H8 → Q' (.bl true) H8) → sp_refused K [.str (Sg T)] H7 Q' (fun c d H2 => E c d H2) := fun Q' H7 q' => ⟨_, rfl, .inl ⟨T, rfl, by omega, tn, by omega, by rw [lnT tn]; exact g⟩, q'⟩
      refine rf _ _ fun H7 s7 => ?_
      refine ⟨_, rfl, ?_⟩
      rw [if_pos rfl]
      exact rf _ _ fun H8 s8 => q _
    rw [show goodB ls = true from decide_eq_true g, if_neg (fun z => by cases z), if_neg tn]
    have prog : ∀ (Q' : VK) (H7 : Hp), (∀ p H8, Same H7 H8 → ProgAt 3 H8 (fun q => H7 q = none) p ls → Q' (.ref p) H8) → sp_program_of K [.str (Sg T)] H7 Q' (fun c d H2 => E c d H2) := fun Q' H7 q' => .inl ⟨T, rfl, by omega, .inr ⟨tn, by omega, fun n => absurd (by rw [lnT tn]; exact g) n, fun p H8 _ s8 pr => q' p H8 s8 (by rw [lnT tn] at pr; exact pr)⟩⟩
    have wr : ∀ (Q' : VK) (H7 : Hp) (p : Addr) (N : Addr → Prop), ProgAt 3 H7 N p ls → (∀ q H8, H7 q = none → Same H7 H8 → H8 q = some (.lst (SgL ls)) → Q' (.ref q) H8) → sp_written 5 K [.ref p] H7 Q' (fun c d H2 => E c d H2) := fun Q' H7 p N pr q' => ⟨p, ls, N, 3, by decide, rfl, pr, by omega, fun l m => (lok l m).1, q'⟩
    have nms : ∀ (Q' : VK) (H7 : Hp) (p : Addr) (N : Addr → Prop), ProgAt 3 H7 N p ls → (∀ q H8, H7 q = none → Same H7 H8 → H8 q = some (.lst (SgL (dd (allN ls)))) → Q' (.ref q) H8) → sp_names_of 5 K [.ref p] H7 Q' (fun c d H2 => E c d H2) := fun Q' H7 p N pr q' => ⟨p, ls, N, 3, by decide, rfl, pr, by omega, q'⟩
    have lnm : ∀ (Q' : VK) (H7 : Hp), H7 pl = some (.lst (SgL ls)) → (∀ q H8, H7 q = none → Same H7 H8 → H8 q = some (.lst (SgL (dd (allN ls)))) → Q' (.ref q) H8) → sp_lawN K [.ref pl] H7 Q' (fun c d H2 => E c d H2) := fun Q' H7 h7 q' => ⟨pl, ls, rfl, h7, by omega, lok, fun q H8 nq s8 hq => q' q H8 nq s8 (by rw [lawN_eq (scan_stm g.1)] at hq; exact hq)⟩
    obtain ⟨ds, pld, -⟩ := SgL_pl hasc
    obtain ⟨es, pln, -⟩ := SgL_pl (ps := dd (allN ls)) (allN_asc g.1 hasc)
    refine prog _ _ fun p1 H7 s7 pr1 => ?_
    have hpl7 := s7 _ _ hpl6
    refine wr _ _ _ _ pr1 fun w1 H8 nw1 s8 hw1 => ?_
    have hpl8 := s8 _ _ hpl7
    refine r_nePlT hw1 hpl8 pld ?_
    walk_at "wt"
    refine nms _ _ _ _ (pr1.same s8) fun n1 H9 nn1 s9 hn1 => ?_
    have hpl9 := s9 _ _ hpl8
    refine r_isi (t := "list") (by show tyO (H9 n1) = _; rw [hn1]; rfl) ?_
    refine ⟨_, rfl, ?_⟩
    rw [if_neg (show ¬ isB "list" "list" = false from by decide)]
    refine lnm _ _ hpl9 fun m1 H10 nm1 s10 hm1 => ?_
    have hn10 := s10 _ _ hn1
    have hpl10 := s10 _ _ hpl9
    refine r_nePlT hn10 hm1 pln ?_
    walk_at "wt"
    refine prog _ _ fun p2 H11 s11 pr2 => ?_
    refine nms _ _ _ _ pr2 fun n2 H12 nn2 s12 hn2 => ?_
    have pr1a := (((pr1.same s8).same s9).same s10).same (s11.trans s12)
    have hn12 := (s11.trans s12) _ _ hn10
    have hpl12 := (s11.trans s12) _ _ hpl10
    obtain ⟨rs, hp7, -⟩ := pr1.pr
    have hp10 := s10 _ _ (s9 _ _ (s8 _ _ hp7))
    have hp12 := (s11.trans s12) _ _ hp10
    refine wr _ _ _ _ pr1a fun w2 H13 nw2 s13 hw2 => ?_
    have hpl13 := s13 _ _ hpl12
    refine r_nePlT hw2 hpl13 pld ?_
    walk_at "wt"
    refine lnm _ _ hpl13 fun m2 H14 nm2 s14 hm2 => ?_
    have hn14 := s14 _ _ (s13 _ _ hn12)
    refine r_nePlT hn14 hm2 pln ?_
    walk_at "wt"
    have hp14 := s14 _ _ (s13 _ _ hp12)
    have hpl14 := s14 _ _ hpl13
    have n1p : n1 ≠ p1 := (ne_of_none (s8 _ _ hp7) nn1).symm
    have hn15 : upd H14 p1 (.lst []) n1 = _ := (upd_ne n1p).trans hn14
    refine ⟨ty_lst hp14, p1, _, rfl, rfl, hp14, r_app hn15 (by rw [SgL_len]; have := g.2; omega) ?_⟩
    have fr : ∀ b o, b ≠ p1 → b ≠ n1 → H14 b = some o → upd (upd H14 p1 (.lst [])) n1 (.lst (SgL (dd (allN ls)) ++ [.str "x"])) b = some o := fun b o h1 h2 g => (upd_ne h2).trans ((upd_ne h1).trans g)
    generalize upd (upd H14 p1 (.lst [])) n1 (.lst (SgL (dd (allN ls)) ++ [.str "x"])) = H15 at fr ⊢
    have s1214 := s13.trans s14
    have pr2' : ProgAt 3 H15 (fun q => H10 q = none) p2 ls := ((pr2.same s12).same s1214).fr (fun c xs e => fr _ _ (ne_of e hp14 (by intro z; cases z)) (ne_of e hn14 (by intro z; cases z)) e) fun q xs n e => ⟨n, fr _ _ (ne_of_none hp10 n).symm (ne_of_none hn10 n).symm e⟩
    have hn2' : H15 n2 = some (.lst (SgL (dd (allN ls)))) := fr _ _ (ne_of_none (s11 _ _ hp10) nn2).symm (ne_of_none (s11 _ _ hn10) nn2).symm (s1214 _ _ hn2)
    have npl1 : pl ≠ p1 := by
      have := pr1.np
      exact ne_of_none hpl6 this
    have npln : pl ≠ n1 := ne_of_none hpl8 nn1
    have hpl15 := fr _ _ npl1 npln hpl14
    refine wr _ _ _ _ pr2' fun w3 H16 nw3 s16 hw3 => ?_
    have hpl16 := s16 _ _ hpl15
    refine r_nePlT hw3 hpl16 pld ?_
    walk_at "wt"
    refine lnm _ _ hpl16 fun m3 H17 nm3 s17 hm3 => ?_
    have hpl17 := s17 _ _ hpl16
    refine r_nePlT (s17 _ _ (s16 _ _ hn2')) hm3 pln ?_
    walk_at "wt"
    refine prog _ _ fun p3 H18 s18 pr3 => ?_
    refine wr _ _ _ _ pr3 fun w4 H19 nw4 s19 hw4 => ?_
    have s1519 := (s16.trans s17).trans (s18.trans s19)
    have hpl19 := s1519 _ _ hpl15
    refine r_eqPlT hw4 hpl19 pld ?_
    walk_at "wt"
    refine nms _ _ _ _ (pr2'.same s1519) fun n3 H20 nn3 s20 hn3 => ?_
    refine lnm _ _ (s20 _ _ hpl19) fun m4 H21 nm4 s21 hm4 => ?_
    exact r_eqPlT (s21 _ _ hn3) hm4 pln (q _)
end

theorem facts {w : World} {K : PySem.W.Frag} {h : Heap} {mg : Str → Option Value} {f : Addr} (X : K.In h) (G : h.Ns mainGlobals mg) (hfa : mg ("law" : Str) = some (.ref f)) (c : He.SaysD fa fn K) (ce : exOk exL K = true) :
    ∃ fd : FuncData, (∀ (s : Shared) (v : Value), BindsTo s fd ⟨[v], []⟩ [("_law_script", v)]) ∧ ∀ base : Heap, K.In base → base.Ns mainGlobals mg → FnOk (PySem.Challenge.rw_cellkeep_k28_programs_read).prog w K mg base CX0 11 f fd ["_law_script"] (sp_law K) := by
  have T : Tx K mg := ⟨⟨h, X, G⟩, c, ce⟩
  have e := hfa.symm.trans (T.glo 41)
  cases e
  have F : ∀ base : Heap, Fn (PySem.Challenge.rw_cellkeep_k28_programs_read).prog w K mg base 11 "law" ["_law_script"] (sp_law K) := fun base => f_law T
  exact ⟨_, fun s v => (F h).bd s [v] rfl, fun base _ _ => quiet (F base).ok fun _ _ _ _ z => z⟩

end Pr
open PySem PySem.W PySem.Calls PyProof.Rows
theorem PySem.Challenge.cw_cellkeep_k28_programs_read_holds : PySem.Challenge.rw_cellkeep_k28_programs_read.Holds := by
  w_on; o_law
  refine HandSHeadRun.head_any (r := OpenLaw.row PySem.Challenge.rw_cellkeep_k28_programs_read) (q := view (OpenLaw.row PySem.Challenge.rw_cellkeep_k28_programs_read).prog [52]) (H := Pr.hk) (ob := Pr.ob) (M := 16000) (loose := Pr.loose) (d := HandSHeadRun.topDef (OpenLaw.row PySem.Challenge.rw_cellkeep_k28_programs_read).prog 52) (kwd := []) Pr.ob_eq
    (by kernel_rfl) (fun s => by kernel_rfl) Pr.run (by kernel_rfl) (by kernel_rfl) (by kernel_rfl) (by rfl) (by first | assumption | decide +kernel) (by decide +kernel) ⟨rfl, rfl, rfl, rfl, rfl, by decide +kernel⟩ ?hw ?hc
  case hw => w_witness2
  case hc =>
    refine L2.walk_ofE (l := PySem.Challenge.rw_cellkeep_k28_programs_read) (n := 63) (k := 11) (x := "_law_script") (CX := L2.CX0) rfl (by decide) (by kernel_rfl) ⟨rfl, by decide, by decide⟩ ?F (fun _ _ _ _ z => z)
    case F =>
      intro w mg fa h Y G hmg0
      obtain ⟨K, KX, c, ce⟩ := Y
      have hmg : mg ("law" : PySem.Str) = some (.ref fa) := by
        have e : (HandSHeadRun.topDef (OpenLaw.row PySem.Challenge.rw_cellkeep_k28_programs_read).prog 52).name = ("law" : PySem.Str) := by kernel_rfl
        rw [← e]
        exact hmg0
      obtain ⟨fd, hb, hF⟩ := Pr.facts (w := w) KX G hmg c ce
      exact ⟨K, fd, Pr.sp_law K, KX, hb, fun H a ns hl _ hS => ⟨a, ns, rfl, hS, hl, fun _ => rfl⟩, hF⟩
#print axioms PySem.Challenge.cw_cellkeep_k28_programs_read_holds

