import PyProof.Rows.All
import Wide.All
import OpenK.AllK
import Wide.FinOn
import KE.KStateDown
import HandS.Base
import HandS.Call
import HandS.List
import HandS.Comp
import HandS.Ends
import HandS.Dict
import HandS.Iter
import HandS.Walk
import HandS.Text
import HandS.Words
import HandS.WordsList
import HandS.WordsDict
import HandS.Exc
import HandS.TryOnly
import HandS.TryMany
import HandS.ExcOwn
import HandS.WordsExc
import HandS.IsInst
import HandS.ExcIs
import HandS.Flow
import HandS.More
import HandS.Wide
import HandS.SortInts
import HandS.Defaults
import HandS.Head0
import HandS.Head1
import HandS.Head2
import HandS.HeadEnd
import HandS.HeadHook1
import HandS.HeadHook2
import PySem.Challenge.RW_cellkeep_k10_last_words_said
set_option Elab.async false
set_option linter.all false
set_option maxRecDepth 100000
set_option maxHeartbeats 4000000
namespace G
open PySem PySem.Spec PyProof.Rows L2

/-! ## a caught exception as a tracked thing -/
/-- an exception object of class cls stands at a -/
def ExA (cls : Value) (a : Addr) : HO := .ext fun h => ∃ (o : Obj) (fv : Array Value), h.get? a = some o ∧ Zc cls none o ∧ o.data = .fields fv
theorem exA_ok {P : Program} {w : World} {H : Hp} {h : Heap} {a : Addr} {cls : Value} {o : Obj} {fv : Array Value} (e : h.get? a = some o) (z : Zc cls none o) (d : o.data = .fields fv) : ObjOk P w H h a (ExA cls a) :=
  ⟨⟨o, fv, e, z, d⟩, ⟨o, e⟩, fun _ _ ⟨o', fv', e', z', d'⟩ k => ⟨o', fv', k _ e', z', d'⟩⟩

section
variable {X : Cx} {pins : List (Addr × Obj)} {σ : L2.St} {H : Hp} {s : Shared}
/-- an object that stands untracked is tracked from now on -/
theorem track {a : Addr} {u : HO} (I : Inv X pins σ H s) (na : H a = none) (n0 : X.s_0.heap.get? a = none) (nL : a ≠ X.env.locals) (nC : ∀ x c, X.env.cells.lookup x = some c → c ≠ a)
    (nP : ∀ p ∈ X.pn ++ pins, p.1 ≠ a) (new : ObjOk X.prog X.w (upd H a u) s.heap a u) : Inv X pins σ (upd H a u) s := by
  have ne0 : ∀ b o, X.s_0.heap.get? b = some o → b ≠ a := fun b o e z => by rw [z, n0] at e; cases e
  have neH : ∀ b o, H b = some o → b ≠ a := fun b o e z => by rw [z, na] at e; cases e
  refine ⟨I.ok, I.os, I.bare, ⟨I.base.keep, I.base.slot, ?_, I.base.there, ?_, ?_, ?_⟩, I.loc, I.cell, ?_, ?_, ?_, ?_, I.len⟩
  · intro b o e n hx
    rw [upd_ne (ne0 b o e)]
    exact I.base.free b o e n hx
  · intro b xs e
    have q := I.base.tups b xs e
    rw [upd_ne (neH b _ q)]
    exact q
  · intro b o u' e
    have q := I.base.frzs b o u' e
    rw [upd_ne (neH b _ q)]
    exact q
  · intro b ps e
    obtain ⟨m, q⟩ := I.base.tbls b ps e
    exact ⟨m, by rw [upd_ne (neH b _ q)]; exact q⟩
  · rw [upd_ne (Ne.symm nL)]
    exact I.free
  · intro x c e
    rw [upd_ne (nC x c e)]
    exact I.freeC x c e
  · intro p hp
    obtain ⟨e, n, ne, nf, d⟩ := I.pin p hp
    exact ⟨e, by rw [upd_ne (nP p hp)]; exact n, ne, nf, d⟩
  · intro b o e
    by_cases hb : b = a
    · subst hb
      rw [upd_same] at e
      cases e
      exact new
    · rw [upd_ne hb] at e
      refine (I.hok b o e).stay (fun _ _ _ z => z) (fun c z => ?_) fun c xs z => ?_
      · rw [upd_ne (neH c _ z)]
        exact z
      · rw [upd_ne (neH c _ z)]
        exact z
/-- a list that was laid since the def began is forgotten -/
theorem forget {a : Addr} {xs : List V} (I : Inv X pins σ (upd H a (.lst xs)) s) (na : H a = none) (n0 : X.H_0 a = none) : Inv X pins σ H s := by
  have back : ∀ b, b ≠ a → upd H a (.lst xs) b = H b := fun b hb => upd_ne hb
  have nn : ∀ b, upd H a (.lst xs) b = none → H b = none := fun b e => by
    by_cases hb : b = a
    · rw [hb, upd_same] at e
      cases e
    · rw [upd_ne hb] at e
      exact e
  refine ⟨I.ok, I.os, I.bare, ⟨I.base.keep, I.base.slot, fun b o e n hx => nn b (I.base.free b o e n hx), I.base.there, ?_, ?_, ?_⟩, I.loc, I.cell, nn _ I.free, fun x c e => nn _ (I.freeC x c e), fun p hp => ?_, ?_, I.len⟩
  · intro b ys e
    rw [← back b (fun z => by rw [z, n0] at e; cases e)]
    exact I.base.tups b ys e
  · intro b o u' e
    rw [← back b (fun z => by rw [z, n0] at e; cases e)]
    exact I.base.frzs b o u' e
  · intro b ps e
    rw [← back b (fun z => by rw [z, n0] at e; cases e)]
    exact I.base.tbls b ps e
  · obtain ⟨e, n, r⟩ := I.pin p hp
    exact ⟨e, nn _ n, r⟩
  · intro b o e
    have hb : b ≠ a := fun z => by rw [z, na] at e; cases e
    have q : upd H a (.lst xs) b = some o := by rw [upd_ne hb]; exact e
    refine (I.hok b o q).stay (fun _ _ _ z => z) (fun c z => ?_) fun c ys z => ?_
    · rw [← back c (fun y => by rw [y, upd_same] at z; cases z)]
      exact z
    · rw [← back c (fun y => by rw [y, upd_same] at z; cases z)]
      exact z
/-- what a fresh address of now was ahead of the def -/
theorem fresh0 {a : Addr} (I : Inv X pins σ H s) (na : H a = none) (nt : ∀ o, X.H_0 a = some o → ∃ ob, X.s_0.heap.get? a = some ob) (hs : s.heap.objs.size ≤ a) : X.H_0 a = none := by
  cases e : X.H_0 a with
  | none => rfl
  | some o =>
    obtain ⟨ob, q⟩ := nt o e
    exact absurd (Nat.lt_of_lt_of_le (Heap.lt_size q) (Nat.le_trans I.sz hs)) (Nat.lt_irrefl _)
end
end G
namespace G
open PySem PySem.Spec PyProof.Rows L2
/-! ## a display that is subscripted at once -/
section
variable {X : Cx} {pins : List (Addr × Obj)} {σ : L2.St} {H : Hp} {s : Shared}
theorem itemAt {value slice : Expr} {E : Value → Shared → Prop} {Q : Value → Shared → Prop} {p : Addr} {xs : List V} {its : List Value} {i : Int} {t : Tok} {z : V} (r : Vals xs its) (pl : PlainL s.heap p its.toArray) (hz : xs.length ≤ sizeLine) (he : atI xs i = some z)
    (fin : ∀ w, RelV z w → Q w s) (hs : subscripted slice false (.ref p) (.int i t) = operate [.ref p, .int i t] (getItem (.ref p) (.int i t))) :
    wpAny (model X.prog X.w) X.A (subscriptTail value slice (.ref p) (.int i t)) Q E s := by
  obtain ⟨j, g1, g2, g3, g4, g5⟩ := atI_get he
  obtain ⟨u, eu, ru⟩ := r.get g2
  have ln := r.length
  have big := line63
  by_cases c : 0 ≤ i
  · have ej : i.toNat = j := Option.some.inj ((seqIndex_of c g5).symm.trans g1)
    exact item_listR pl.isList c (by omega) (by subst ej; simpa using eu) (fin u ru) hs
  · have ej : (i + (its.toArray.size : Int)).toNat = j := by
      have z1 := (seqIndex_neg (by omega) g4).symm.trans g1
      simp only [List.size_toArray, ← ln]
      exact Option.some.inj z1
    refine subscriptTail_builtinR (x := u) pl.isList.typeIs slot_list_getitem.lookup ?_ hs
    refine wpAny_getItem_list_neg (Q := fun r s' => r = u ∧ Q r s') pl.isList (by omega) ?_ (by omega) (by subst ej; simpa using eu) ⟨rfl, fin u ru⟩
    simp only [List.size_toArray]
    omega
/-- [a, b, ..][i]: the list is never seen again -/
def tMenu (ta : TA) (ti : TE) : TE := fun σ H Q => ta σ H fun xs H1 => xs.length ≤ sizeLine ∧ ti σ H1 fun y H2 => ∃ i v, y = .int i ∧ atI xs i = some v ∧ Q v H2
theorem pe_menu {es : List Expr} {b : Expr} {ta : TA} {tb : TE} {p1 pos : Pos} (ha : PA X es ta) (hb : PE X b tb) (hs : PlainIx b) : PE X (.Subscript (.List es p1) b pos) (tMenu ta tb) := by
  refine ⟨fun pins s σ H Q I h => ?_⟩
  refine Subscript_ (wpAny_List_spliced (thn (ha.run p1 pins s σ H _ I h) fun us s1 ⟨xs, H1, I1, r, z, q⟩ => ⟨by rw [← r.length]; exact z, ?_⟩))
  have hf : H1 s1.heap.objs.size = none := I1.hok.fresh (Nat.le_refl _)
  have I2 : Inv X pins σ H1 { s1 with heap := s1.heap.push { cls := .type "list", data := .seq us.toArray } } := I1.kept (t' := s1.toks) fun _ _ e => Heap.get?_push_of_some _ e
  have eo : (s1.heap.push { cls := .type "list", data := .seq us.toArray }).get? s1.heap.objs.size = some { cls := .type "list", data := .seq us.toArray } := Heap.get?_push_size _ rfl
  have I3 := I2.pinned (fp := [s1.heap.objs.size]) (fun b hb => by
    have e : b = s1.heap.objs.size := by simpa using hb
    subst e
    exact I1.fpOk (Nat.le_refl _) hf) fun b hb => by
    have e : b = s1.heap.objs.size := by simpa using hb
    subst e
    exact ⟨_, eo, fun v z => by cases z⟩
  refine thn (hb.run _ _ σ H1 _ I3 q) fun u s2 ⟨y, H2, I4, ry, i, v, ey, hv, q2⟩ => ?_
  subst ey
  obtain ⟨t, rfl⟩ := ry
  have e2 : s2.heap.get? s1.heap.objs.size = some { cls := .type "list", data := .seq us.toArray } :=
    (I4.pin (s1.heap.objs.size, _) (List.mem_append_right _ (List.mem_append_right _ (mem_pinsAt (List.mem_cons_self) eo)))).1
  exact itemAt r ⟨_, _, e2, rfl, rfl, rfl⟩ z hv (fun w rw' => ⟨v, H2, I4.unpinned, rw', q2⟩) (hs _ _)
end
/-! ## defs that may be called while an exception is handled: they raise nothing -/
structure RoomN (k : Nat) (A : Around) : Prop where
  dp : A.depth + 3 * k + 5 < recursionLimit
  un : A.units + 16 * k + 200 < cLine
theorem roomN_of {k : Nat} {A : Around} (r : Room k A) : RoomN k A := ⟨r.dp, r.un⟩
theorem roomN_mark {k : Nat} {A : Around} {v : Option Value} (r : Room k A) : RoomN k (A.mark v) := ⟨r.dp, r.un⟩
theorem RoomN.mono {j k : Nat} {A : Around} (r : RoomN k A) (h : j ≤ k) : RoomN j A := ⟨by have := r.dp; omega, by have := r.un; omega⟩
theorem RoomN.deeper {k : Nat} {A : Around} (r : RoomN (k + 1) A) (env : Env) : RoomN k (A.deeper env) :=
  ⟨by have h := r.dp; show A.depth + 1 + (3 * k + 5) < _; omega, by have h := r.un; show A.units + 3 + (16 * k + 200) < _; omega⟩
abbrev cxN (P : Program) (w : World) (K : PySem.W.Frag) (mg : Str → Option Value) (base : Heap) (N : List Str) (qual : Str) (scope : Scope) (f : Addr) (cd : Value) (A : Around) (outer : List Env) (s : Shared) (H : Hp) : Cx :=
  { cxOf CX0 P w K mg base N qual scope f cd A outer s H E0 with calm := false }
structure FnN (P : Program) (w : World) (K : PySem.W.Frag) (mg : Str → Option Value) (base : Heap) (k : Nat) (f : Addr) (fd : FuncData) (ps : List Str) (sp : Sp) : Prop where
  len : ∀ vs H Q E, sp vs H Q E → vs.length = ps.length
  run : ∀ (A : Around) (outer : List Env) (s : Shared) (H : Hp) (args : Args) (us : List Value) (vs : List V) (Q : VK), RoomN k A → Env0 P w K mg base A outer s H → BindsTo s fd args (ps.zip us) → Vals vs us → sp vs H Q E0 →
    codeAny (model P w) A (.call (.ref f) args) (CR CX0 outer P w H s Q E0) s
theorem FnN.mono {P : Program} {w : World} {K : PySem.W.Frag} {mg : Str → Option Value} {base : Heap} {j k : Nat} {f : Addr} {fd : FuncData} {ps : List Str} {sp : Sp} (F : FnN P w K mg base j f fd ps sp) (h : j ≤ k) : FnN P w K mg base k f fd ps sp :=
  ⟨F.len, fun A outer s H args us vs Q hr => F.run A outer s H args us vs Q (hr.mono h)⟩
section
variable {P : Program} {w : World} {K : PySem.W.Frag} {mg : Str → Option Value} {base : Heap}
theorem fn_ofN {x qual : Str} {params : Arguments} {body : List Stmt} {scope : Scope} {dvs : List V} {kws : List (Str × V)} {f : Addr} {fd : FuncData} {N ps : List Str} {k : Nat} {sp : Sp} (F : FunD K x qual params body scope dvs kws f fd) (S : FnScope N ps scope)
    (len : ∀ vs H Q E, sp vs H Q E → vs.length = ps.length)
    (hbody : ∀ (cdv : Value) (A : Around) (outer : List Env) (s : Shared) (H : Hp) (vs : List V) (Q : VK), RoomN k (A.deeper (envOfC qual scope s.heap.objs.size f cdv)) → sp vs H Q E0 →
      ∃ t, PSs (cxN P w K mg base N qual scope f cdv A outer s H) body t ∧ t { nx := fun _ H' => Q .non H', rt := Q } (start N vs) H) : FnN P w K mg base (k + 1) f fd ps sp := by
  obtain ⟨oc, od, dV, kV, doc, pm, an, cdv, ct, osl, rfl, lk, hcd, -, -⟩ := F.ex
  refine ⟨len, fun A outer s H args us vs Q hr e0 hb r hsp => ?_⟩
  have hl := len _ _ _ _ hsp
  have st : ∀ b o, base.get? b = some o → s.heap.get? b = some o := fun b o e => (e0.bs b o e).1
  have KX : K.In s.heap := e0.mod.kin.keeps st
  refine codeAny_call_function (by have := hr.dp; omega) (KX _ _ lk) rfl S.co S.gen rfl (PySem.W.codeRec_of KX hcd) (hb _ _ _ _ ?_)
  refine wpAny_newFunctionEnv_cells S.kind (fun y hy => ?_) fun env he s1 x => ?_
  · rcases S.par y.1 (List.of_mem_zip hy).1 with q | q
    · exact .inl q
    · exact .inr ⟨q, PySem.W.cellsFrom_some _ _ _ (.inl q)⟩
  subst he
  refine ⟨(e0.mod.nolimit.keeps st).keeps x.toInCall.keep, codeAny_func ?_⟩
  obtain ⟨t, ht, hq⟩ := hbody cdv A outer s H vs Q (hr.deeper _) hsp
  have J : Inv (cxOf CX0 P w K mg base N qual scope f cdv { A with handled := none } outer s H E0) [] (start N vs) H s1 := inv_start S rfl ⟨e0.frames, e0.mod, e0.bs, e0.bsz, e0.funs, e0.frf, e0.hok, e0.bare⟩ hl r x
  have I : Inv (cxN P w K mg base N qual scope f cdv A outer s H) [] (start N vs) H s1 :=
    ⟨⟨J.ok.mod, J.ok.kind, J.ok.glob, J.ok.blt, J.ok.above, J.ok.inj, J.ok.has, J.ok.cab, fun z => Bool.noConfusion (show false = true from z), Around.frames_deeper e0.frames, J.ok.stk, J.ok.exf, J.ok.bs, J.ok.bsz, J.ok.noex, J.ok.exfs, J.ok.funs, J.ok.frf⟩,
      J.os, J.bare, J.base, J.loc, J.cell, J.free, J.freeC, J.pin, J.hok, J.len⟩
  refine wpAny_mono (ht.run [] s1 (start N vs) H _ I hq) (fun fl s' hs => ?_) fun e s' hs => hs
  cases fl with
  | ret u =>
    obtain ⟨v, σ', H', J', rv, q⟩ := hs
    exact ⟨v, H', J'.os, J'.bare, J'.base, J'.hok, rv, q⟩
  | next =>
    obtain ⟨σ', H', J', q⟩ := hs
    exact ⟨.non, H', J'.os, J'.bare, J'.base, J'.hok, rfl, q⟩
  | brk => exact hs.elim fun _ z => z.elim fun _ y => y.2.elim
  | cont => exact hs.elim fun _ z => z.elim fun _ y => y.2.elim
/-- as any def -/
theorem FnN.ok {k : Nat} {f : Addr} {fd : FuncData} {ps : List Str} {sp : Sp} (F : FnN P w K mg base k f fd ps sp) (h0 : ∀ vs H Q E, sp vs H Q E → sp vs H Q E0) : FnOk P w K mg base (L2.CX P w) k f fd ps sp :=
  ⟨F.len, fun A outer s H args us vs Q E hr e0 hb r hsp => codeAny_mono (F.run A outer s H args us vs Q (roomN_of hr) e0 hb r (h0 _ _ _ _ hsp)) fun r s' hq => by
    cases r with
    | error e => exact hq.elim
    | ok fl => cases fl with
      | ret u => exact hq
      | next => exact hq.elim
      | brk => exact hq.elim
      | cont => exact hq.elim⟩
end
section
variable {X : Cx} {k : Nat} {f : Addr} {fd : FuncData} {ps : List Str} {sp : Sp} {x : Str} {q pos : Pos} {e : Expr} {es : List Expr} {t : TA}
def tCallN (sp : Sp) (t : TA) : TE := fun σ H Q => t σ H fun vs H1 => sp vs H1 Q E0
theorem pe_callN (F : FnN X.prog X.w X.K X.mg X.base k f fd ps sp) (hr : RoomN k X.A) (hg : Gl X x) (hm : X.mg x = some (.ref f)) (hk : PySem.W.keepIn X.K (.ref f) = true) (hb : Binds X.K fd ps [])
    (ha : PA X (e :: es) t) (hdb : (x == ("__debug__" : Str)) = false := by decide) (he : starEach (e :: es) X.env = (false, eval e X.env) :: starEach es X.env := by rfl) (hpl : (backTo pos (starEach es X.env)).any (·.1) = false := by rfl) :
    PE X (.Call (.Name x q) (e :: es) [] pos) (tCallN sp t) := by
  refine ⟨fun pins s σ H Q I h => ?_⟩
  refine wpAny_Call_Name_kw (ld_glob I hg hm ?_ hdb)
  refine PySem.W.callWith_K (h₀ := X.base) I.ok.mod.kin hk (thn (ha.run pos pins s σ H _ I h) fun us s1 hh => ?_) he hpl
  obtain ⟨vs, H1, I1, r, h2⟩ := hh
  refine ⟨I1.kIn, ?_⟩
  have hl : us.length = ps.length := by rw [← r.length]; exact F.len _ _ _ _ h2
  have b := hb s1 us I1.kIn (by rw [List.append_nil]; exact hl)
  rw [List.append_nil] at b
  refine wpAny_call (codeAny_mono (F.run X.A X.stack s1 H1 ⟨us, []⟩ us vs Q hr I1.env0 b r h2) fun r s' hq => ?_)
  cases r with
  | error e => exact hq.elim
  | ok fl => cases fl with
    | ret u => exact I1.after hq
    | next => exact hq.elim
    | brk => exact hq.elim
    | cont => exact hq.elim
end
end G
namespace G
open PySem PySem.Spec PyProof.Rows L2
/-! ## calls whose exceptions the surroundings take (W) -/
section
variable {X : Cx} {k : Nat} {f C : Addr} {fd : FuncData} {ps : List Str} {sp : Sp} {W : WX} {x m : Str} {p pos apos : Pos} {e o : Expr} {es : List Expr} {ta : TE} {t : TA}
/-- f(..) -/
def tCallW (sp : Sp) (W : WX) (t : TA) : TE := fun σ H Q => t σ H fun vs H1 => sp vs H1 Q fun c d H2 => W c d σ H2
theorem pe_callW (tk : Takes X W) (F : FnOk X.prog X.w X.K X.mg X.base (L2.CX X.prog X.w) k f fd ps sp) (hr : Room k X.A) (hg : Gl X x) (hm : X.mg x = some (.ref f)) (hk : PySem.W.keepIn X.K (.ref f) = true) (hb : Binds X.K fd ps [])
    (ha : PA X (e :: es) t) (hdb : (x == ("__debug__" : Str)) = false := by decide) (he : starEach (e :: es) X.env = (false, eval e X.env) :: starEach es X.env := by rfl) (hpl : (backTo pos (starEach es X.env)).any (·.1) = false := by rfl) :
    PE X (.Call (.Name x p) (e :: es) [] pos) (tCallW sp W t) := pe_callS F hr hg hm hk hb (fun σ => passAt tk σ) ha hdb he hpl
theorem pe_callW0 (tk : Takes X W) (F : FnOk X.prog X.w X.K X.mg X.base (L2.CX X.prog X.w) k f fd ps sp) (hr : Room k X.A) (hg : Gl X x) (hm : X.mg x = some (.ref f)) (hk : PySem.W.keepIn X.K (.ref f) = true) (hb : Binds X.K fd ps [])
    (hdb : (x == ("__debug__" : Str)) = false := by decide) : PE X (.Call (.Name x p) [] [] pos) (tCallW sp W tNil) := by
  refine ⟨fun pins s σ H Q I h => wpAny_Call_Name_kw (ld_glob I hg hm ?_ hdb)⟩
  exact PySem.W.callWith_K0 I.kIn hk (run_fnS (us := []) (E := WE W) F hr hb (passAt tk σ) I .nil h)
/-- o.m(..) -/
def tMethW (C : Addr) (m : Str) (sp : Sp) (W : WX) (ta : TE) (t : TA) : TE := fun σ H Q => ta σ H fun x H1 => ∃ a dx fs, x = .ref a ∧ H1 a = some (.ins C dx fs) ∧ fs.lookup m = none ∧ t σ H1 fun vs H2 => sp (x :: vs) H2 Q fun c d H3 => W c d σ H3
theorem pe_methW {pl : Sem Bool} (tk : Takes X W) (he : PE X o ta) (c : Cls X.K C) (hm : Meth X.K C m f) (F : FnOk X.prog X.w X.K X.mg X.base (L2.CX X.prog X.w) k f fd ps sp) (hr : Room k X.A) (hb : Binds X.K fd ps []) (ha : PA X (e :: es) t)
    (hst : starEach (e :: es) X.env = (false, eval e X.env) :: starEach es X.env := by rfl) (hpl : (backTo pos (starEach es X.env)).any (·.1) = false := by rfl)
    (ht : eval (.Call (.Attribute o m apos) (e :: es) [] pos) X.env = (do
      let z ← eval o X.env
      standAt apos.atName
      let (g, one) ← holding [z] (getMethod z m pl)
      callWith pos g one (backTo pos (starEach (e :: es) X.env)) (backToKw pos (keywordEach [] X.env))) := by rfl) :
    PE X (.Call (.Attribute o m apos) (e :: es) [] pos) (tMethW C m sp W ta t) := by
  refine ⟨fun pins s σ H Q I h => ?_⟩
  refine PySem.W.methodCall_KW (pl := pl) (thn (he.run pins s σ H _ I h) fun u s1 hh => ?_) ht
  obtain ⟨y, H1, I1, ry, a, dx, fs, ey, ea, l, q⟩ := hh
  subst ey
  obtain rfl : u = Value.ref a := ry
  refine getmeth_ok I1 ea c hm l ?_
  refine PySem.W.callWith_K (first := [.ref a]) (h₀ := X.base) I.ok.mod.kin hm.kp (thn (ha.run pos pins s1 σ H1 _ I1 q) fun us s2 h2 => ?_) hst hpl
  obtain ⟨vs, H2, I2, r, q2⟩ := h2
  exact ⟨I2.kIn, run_fnS (us := .ref a :: us) (vs := .ref a :: vs) (E := WE W) F hr hb (passAt tk σ) I2 (.cons rfl r) q2⟩
theorem pe_methW0 {pl : Sem Bool} (tk : Takes X W) (he : PE X o ta) (c : Cls X.K C) (hm : Meth X.K C m f) (F : FnOk X.prog X.w X.K X.mg X.base (L2.CX X.prog X.w) k f fd ps sp) (hr : Room k X.A) (hb : Binds X.K fd ps [])
    (ht : eval (.Call (.Attribute o m apos) [] [] pos) X.env = (do
      let z ← eval o X.env
      standAt apos.atName
      let (g, one) ← holding [z] (getMethod z m pl)
      callWith pos g one (backTo pos (starEach [] X.env)) (backToKw pos (keywordEach [] X.env))) := by rfl) :
    PE X (.Call (.Attribute o m apos) [] [] pos) (tMethW C m sp W ta tNil) := by
  refine ⟨fun pins s σ H Q I h => ?_⟩
  refine PySem.W.methodCall_KW (pl := pl) (thn (he.run pins s σ H _ I h) fun u s1 hh => ?_) ht
  obtain ⟨y, H1, I1, ry, a, dx, fs, ey, ea, l, q⟩ := hh
  subst ey
  obtain rfl : u = Value.ref a := ry
  refine getmeth_ok I1 ea c hm l ?_
  exact PySem.W.callWith_K0 (first := [.ref a]) I1.kIn hm.kp (run_fnS (us := [.ref a]) (vs := [.ref a]) (E := WE W) F hr hb (passAt tk σ) I1 (.cons rfl .nil) q)
/-- C(..) -/
def tMakeW (C : Addr) (sp : Sp) (W : WX) (t : TA) : TE := fun σ H Q => t σ H fun vs H1 => ∀ x dx, H1 x = none → H1 dx = none → dx ≠ x →
  sp (.ref x :: vs) (upd (upd H1 dx (.own x)) x (.ins C dx [])) (fun v H2 => v = .non ∧ Q (.ref x) H2) fun c d H3 => W c d σ H3
theorem run_makeW {pins : List (Addr × Obj)} {σ : L2.St} {H : Hp} {s : Shared} {Q : VK} {us : List Value} {vs : List V} (tk : Takes X W) (M : Mk X.K C f) (F : FnOk X.prog X.w X.K X.mg X.base (L2.CX X.prog X.w) k f fd ps sp) (hr : Room (k + 1) X.A) (hb : Binds X.K fd ps [])
    (I : Inv X pins σ H s) (r : Vals vs us)
    (h : ∀ x dx, H x = none → H dx = none → dx ≠ x → sp (.ref x :: vs) (upd (upd H dx (.own x)) x (.ins C dx [])) (fun v H2 => v = .non ∧ Q (.ref x) H2) fun c d H3 => W c d σ H3) :
    wpAny (model X.prog X.w) X.A (call (.ref C) us) (EP X pins σ Q) X.xe s := by
  have go := h (s.heap.objs.size + 1) s.heap.objs.size (I.hok.fresh (Nat.le_succ _)) (I.hok.fresh (Nat.le_refl _)) (Nat.ne_of_lt (Nat.lt_succ_self _))
  have J := Inv.made (C := C) I
  have r2 : Vals (V.ref (s.heap.objs.size + 1) :: vs) (Value.ref (s.heap.objs.size + 1) :: us) := .cons rfl r
  have hl : (Value.ref (s.heap.objs.size + 1) :: us).length = ps.length := r2.length.symm.trans (F.len _ _ _ _ go)
  have b := hb { s with heap := (s.heap.push PySem.W.emptyDict).push (PySem.W.instObj C s.heap.objs.size) } (Value.ref (s.heap.objs.size + 1) :: us) J.kIn (by rw [List.append_nil]; exact hl)
  rw [List.append_nil] at b
  refine wpAny_call (make_map (f := f) I.kIn M.makes M.init (beq_iff_eq.mp M.fn) (codeAny_mono (F.run _ X.stack _ _ ⟨Value.ref (s.heap.objs.size + 1) :: us, []⟩ _ _ _ _ (hr.make C us []) (J.env0.make C us []) b r2 go) fun r s' hq => ?_))
  cases r with
  | error e => exact passAt tk σ pins _ _ e s' J hq
  | ok fl =>
    cases fl with
    | ret u =>
      obtain ⟨v, H', I3, rv, ev, q3⟩ := J.after hq
      subst ev
      exact ⟨rv, V.ref (s.heap.objs.size + 1), H', I3, rfl, q3⟩
    | next => exact hq.elim
    | brk => exact hq.elim
    | cont => exact hq.elim
theorem pe_makeW (tk : Takes X W) (M : Mk X.K C f) (F : FnOk X.prog X.w X.K X.mg X.base (L2.CX X.prog X.w) k f fd ps sp) (hr : Room (k + 1) X.A) (hg : Gl X x) (hm : X.mg x = some (.ref C)) (hb : Binds X.K fd ps [])
    (ha : PA X (e :: es) t) (hdb : (x == ("__debug__" : Str)) = false := by decide) (he : starEach (e :: es) X.env = (false, eval e X.env) :: starEach es X.env := by rfl) (hpl : (backTo pos (starEach es X.env)).any (·.1) = false := by rfl) :
    PE X (.Call (.Name x p) (e :: es) [] pos) (tMakeW C sp W t) := by
  refine ⟨fun pins s σ H Q I h => wpAny_Call_Name_kw (ld_glob I hg hm ?_ hdb)⟩
  refine PySem.W.callWith_K (h₀ := X.base) I.ok.mod.kin M.kp (thn (ha.run pos pins s σ H _ I h) fun us s1 hh => ?_) he hpl
  obtain ⟨vs, H1, I1, r, q⟩ := hh
  exact ⟨I1.kIn, run_makeW tk M F hr hb I1 r q⟩
theorem pe_makeW0 (tk : Takes X W) (M : Mk X.K C f) (F : FnOk X.prog X.w X.K X.mg X.base (L2.CX X.prog X.w) k f fd ps sp) (hr : Room (k + 1) X.A) (hg : Gl X x) (hm : X.mg x = some (.ref C)) (hb : Binds X.K fd ps [])
    (hdb : (x == ("__debug__" : Str)) = false := by decide) : PE X (.Call (.Name x p) [] [] pos) (tMakeW C sp W tNil) := by
  refine ⟨fun pins s σ H Q I h => wpAny_Call_Name_kw (ld_glob I hg hm ?_ hdb)⟩
  exact PySem.W.callWith_K0 I.kIn M.kp (run_makeW (us := []) tk M F hr hb I .nil h)
end

/-! ## try .. except x as n, the exception a tracked thing in the suite -/
/-- what the clause wishes; slot i is n's -/
def wTr (K : PySem.W.Frag) (c : Value) (i : Nat) (ts : TS) (Wo : WX) (D : Ends) : WX := fun cls d σ H => ∃ b, PySem.W.exmOne K cls c = some b ∧
  (b = true → d = none ∧ ∀ a, H a = none → ts { nx := fun σ' H' => D.nx (σ'.set i none) H', rt := D.rt, bk := fun σ' H' => D.bk (σ'.set i none) H', ct := fun σ' H' => D.ct (σ'.set i none) H' } (σ.set i (some (.ref a))) (upd H a (ExA cls a))) ∧ (b = false → Wo cls d σ H)
section
variable {X : Cx} {x n : Str} {c : Value} {i : Nat} {body suite : List Stmt} {b0 : Stmt} {np pos pos' : Pos} {tb : WX → TS} {ts : TS} {Wo : WX}
theorem toSuite {pins : List (Addr × Obj)} {σ : L2.St} {H : Hp} {s : Shared} (I : Inv X pins σ H s) (a : Addr) : Inv (X.suite a (X.pn ++ pins)) [] σ H s :=
  ⟨I.ok.suite _ _, I.os, I.bare, I.base, I.loc, I.cell, I.free, I.freeC, fun p hp => I.pin p (by simpa using hp), I.hok, I.len⟩
theorem ofSuite {pins pl : List (Addr × Obj)} {σ : L2.St} {H : Hp} {s : Shared} {a : Addr} (ok : X.Ok) (I : Inv (X.suite a (X.pn ++ pins)) pl σ H s) : Inv X pins σ H s :=
  ⟨ok, I.os, I.bare, I.base, I.loc, I.cell, I.free, I.freeC, fun p hp => I.pin p (List.mem_append_left _ hp), I.hok, I.len⟩
theorem ps_tryT (hs : X.stack = X.env :: X.outer) (hf : X.env.frame = some X.env.locals) (hex : X.ex = []) (hN : X.N.Nodup) (hi : X.N[i]? = some n) (hln : X.env.kindOf n = some .local) (hc : Names X x c) (tk : Takes X Wo)
    (hb : ∀ (W : WX) (pn : List (Addr × Obj)) (xe : Value → Shared → Prop), Takes (X.tr pn xe) W → PassesOwn (model X.prog X.w) X.A X.env xe → PSs (X.tr pn xe) body (tb W))
    (hsu : ∀ (a : Addr) (pn : List (Addr × Obj)), PSs (X.suite a pn) (b0 :: suite) ts) :
    PS X (.Try body [.ExceptHandler (some (.Name x np)) (some n) (b0 :: suite) pos'] [] [] pos) (fun D σ H => tb (wTr X.K c i ts Wo D) D σ H) := by
  refine ⟨fun pins s σ H D I h => ?_⟩
  have ok := I.ok
  have hfr : X.A.frames = some (X.env :: X.outer) := by rw [ok.frames, hs]
  have lo : Loc X.env.scope n := .inl hln
  let rest : List ExceptHandler := [.ExceptHandler (some (.Name x np)) (some n) (b0 :: suite) pos']
  let M := model X.prog X.w
  let wish : Value → Shared → Prop := fun e u1 => wpAny M X.A (noteFrame e X.env) (fun _ u2 => wpAny M X.A (setFlight e none) (fun _ u3 => wpAny M X.A (handleBy e X.env rest) (SP X pins D) X.xe u3) X.xe u2) X.xe u1
  refine wpAny_Try_except (wpAny_mono ((hb (wTr X.K c i ts Wo D) (X.pn ++ pins) wish (fun u s' air => ?_) PassesOwn.looking).run [] s σ H D (I.toTry _) h) (fun fl s1 hsp => ?_) (fun e s1 he => he))
  · obtain ⟨a, B, sg, pi', σ1, H1, cls, d, rfl, Jt, nb, up, sky, na, os, ag, b, e1, yes, no⟩ := air
    have J : Inv X pins σ1 H1 sg := Jt.ofTry ok
    have sky' : Sky B (X.env :: X.outer) a (Zc cls d) X.env.locals s'.heap := by rw [← hs]; exact sky
    show wpAny M X.A (noteFrame (.ref a) X.env) _ _ _
    refine Sky.land Zc.steady hfr hf sky' fun h3 fl3 up3 => ?_
    have u3 := up.trans up3
    have J3 : Inv X pins σ1 H1 { s' with heap := h3 } := J.landed nb fl3.1 u3 os ag
    obtain ⟨o3, f3, g3, z3, d3⟩ := fl3.there
    have nfr : a ∉ frs (X.env :: X.outer) := fun hm => by
      obtain ⟨-, o', g', nf⟩ := fl3.2.2.1.mem hm
      rw [g3] at g'
      cases g'
      exact nf _ d3
    have nL : a ≠ X.env.locals := fun z => nfr (List.mem_filterMap.mpr ⟨X.env, List.mem_cons_self, by rw [hf, z]⟩)
    have nst : a ∉ frs X.stack := by rw [hs]; exact nfr
    have nB : B.get? a = none := fl3.2.1
    have ng : sg.heap.get? a = none := by
      cases e : sg.heap.get? a with
      | none => rfl
      | some o =>
        rw [nb a o e nst] at nB
        cases nB
    have n0 : X.s_0.heap.get? a = none := by
      cases e : X.s_0.heap.get? a with
      | none => rfl
      | some o =>
        obtain ⟨o', q⟩ := J.base.there a o e (by rw [hex]; exact List.not_mem_nil)
        rw [ng] at q
        cases q
    have nC : ∀ y z, X.env.cells.lookup y = some z → z ≠ a := fun y z e q => by
      obtain ⟨v, ob, e2, -⟩ := J.cell y z e
      rw [q, ng] at e2
      cases e2
    have nP : ∀ p ∈ X.pn ++ pins, p.1 ≠ a := fun p hp q => by
      have e2 := (J.pin p hp).1
      rw [q, ng] at e2
      cases e2
    have S3 := toSuite J3 a
    refine wpAny_handleBy_cons (codeAny_handlers_test ?_) (by intro q; cases q)
    have LT : PySem.W.Looks M h3 (typeOf (.ref a)) cls := fun _ _ _ _ k q => wpAny_typeOf_ref (k _ _ g3) (by rw [z3.1]; exact q)
    have LM := PySem.W.exm_one (M := M) J3.kIn LT e1
    have test : ∀ {Q : Value → Shared → Prop} {E : Value → Shared → Prop}, Q c { s' with heap := h3 } → wpAny M (X.A.mark (some (.ref a))) (eval (.Name x np) X.env) Q E { s' with heap := h3 } := fun {Q E} q => by
      obtain ⟨hg, hdb, hm | ⟨hm, hv, hnn⟩⟩ := hc
      · exact ld_glob (X := X.suite a (X.pn ++ pins)) S3 hg hm q hdb
      · exact ld_blt (X := X.suite a (X.pn ++ pins)) S3 hg hm hv q hnn hdb
    refine test (LM.here ?_)
    cases b with
    | true =>
      refine codeAny_handlers_suite_as (HandSPX.lands_againZ fl3 fun h4 fl4 up4 => ?_)
      have J4 : Inv X pins σ1 H1 { s' with heap := h4 } := J.landed nb fl4.1 (u3.trans up4) os ag
      obtain ⟨o4, f4, g4, z4, d4⟩ := fl4.there
      obtain ⟨ed, go⟩ := yes rfl
      subst ed
      have J5 := track (u := ExA cls a) J4 na n0 nL nC nP (exA_ok g4 z4 d4)
      refine store_ok (X := X.suite a (X.pn ++ pins)) (v := .ref a) (toSuite J5 a) hN hi lo rfl (fun s5 S5 => ?_) (.inr hln)
      refine wpAny_mono ((hsu a (X.pn ++ pins)).run [] s5 _ _ _ S5 (go a na)) (fun fl s6 hsp => ?_) (fun _ _ z => False.elim z)
      have out : ∀ {σ6 : L2.St} {H6 : Hp} {Q : Shared → Prop}, Inv (X.suite a (X.pn ++ pins)) [] σ6 H6 s6 → (∀ s7, Inv X pins (σ6.set i none) H6 s7 → Q s7) →
          wpAny M X.A (do bindName X.env n .none; unbindBehindTheSuite X.env n pos') (fun _ s7 => Q s7) X.xe s6 := fun S6 hq => gone_ok (ofSuite ok S6) hN hi hln hq
      cases fl with
      | next => exact hsp.elim fun _ z => z.elim fun _ q => out q.1 fun s7 J7 => ⟨_, _, J7, q.2⟩
      | brk => exact hsp.elim fun _ z => z.elim fun _ q => out q.1 fun s7 J7 => ⟨_, _, J7, q.2⟩
      | cont => exact hsp.elim fun _ z => z.elim fun _ q => out q.1 fun s7 J7 => ⟨_, _, J7, q.2⟩
      | ret u =>
        obtain ⟨v6, σ6, H6, S6, r6, q6⟩ := hsp
        exact out S6 fun s7 J7 => ⟨_, _, _, J7, r6, q6⟩
    | false =>
      show wpAny M X.A (handleBy (.ref a) X.env []) _ _ _
      refine wpAny_handleBy_nil ?_
      obtain ⟨-, -, -, oe, vs, T, oT, ts', he, hz, hd, h1, hr⟩ := id fl3
      unfold PySem.passOn
      refine wpAny_bind (wpAny_field he hd h1 ?_)
      rw [if_neg (show ¬ ((Value.ref T == Value.none) = true) from by simp)]
      have fin : wpAny M X.A (setFlight (.ref a) X.env.frame) (fun _ u4 => wpAny M X.A (throw (.ref a) : Sem Flow) (SP X pins D) X.xe u4) X.xe { s' with heap := h3 } := by
        rw [hf]
        refine HandSPX.setFlight_upZ fl3 fun h4 hh4 up4 => wpAny_throw (tk _ _ ?_)
        exact ⟨a, B, sg, pins, σ1, H1, cls, d, rfl, J, nb, u3.trans up4, .inr (.inr (by rw [hs]; exact hh4)), na, os, ag, no rfl⟩
      first
        | exact wpAny_bind (wpAny_pure (wpAny_bind fin))
        | exact wpAny_bind fin
  · cases fl with
    | next => exact hsp.elim fun σ1 z => z.elim fun H1 q => wpAny_execs_nil ⟨σ1, H1, q.1.ofTry ok, q.2⟩
    | brk => exact hsp.elim fun σ1 z => z.elim fun H1 q => ⟨σ1, H1, q.1.ofTry ok, q.2⟩
    | cont => exact hsp.elim fun σ1 z => z.elim fun H1 q => ⟨σ1, H1, q.1.ofTry ok, q.2⟩
    | ret u =>
      obtain ⟨v, σ1, H1, J, r, q⟩ := hsp
      exact ⟨v, σ1, H1, J.ofTry ok, r, q⟩
end
end G
namespace G
open PySem PySem.Spec PyProof.Rows L2
/-! ## isinstance -/
def tyO : Option HO → Option String
  | some (.lst _) => some "list"
  | some (.frz _ (.lst _)) => some "list"
  | some (.tup _) => some "tuple"
  | some (.dK _) => some "dict"
  | some (.dT _) => some "dict"
  | _ => none
def tyOf : V → Hp → Option String
  | .non, _ => some "NoneType"
  | .bl _, _ => some "bool"
  | .int _, _ => some "int"
  | .str _, _ => some "str"
  | .ref a, H => tyO (H a)
  | _, _ => none
theorem tyOf_ok {K : PySem.W.Frag} {x : V} {H : Hp} {t : String} (h : tyOf x H = some t) : TyX K H x (.type t) := by
  cases x with
  | non => cases h; exact .base .non
  | bl b => cases h; exact .base (.bl b)
  | int i => cases h; exact .base (.int i)
  | str z => cases h; exact .base (.str z)
  | byt z => cases h
  | flt z => cases h
  | ty z => cases h
  | ref a =>
    have h1 : tyO (H a) = some t := h
    unfold tyO at h1
    split at h1
    · rename_i e; cases h1; exact .base (.lst e)
    · rename_i e; cases h1; exact .base (.frz e)
    · rename_i e; cases h1; exact .base (.tup e)
    · rename_i e; cases h1; exact .base (.dK e)
    · rename_i e; cases h1; exact .base (.dT e)
    · cases h1
/-- the classes that are asked of plain things, and the answer -/
def isB (t n : String) : Bool := t == n || (t == "bool" && n == "int")
def tys : List String := ["NoneType", "bool", "int", "str", "list", "tuple", "dict"]
theorem isB_all : ∀ t ∈ tys, ∀ n ∈ (["int", "bool", "str", "list", "tuple", "dict"] : List String), kitB t n = some (isB t n) := by decide +kernel
theorem tyOf_in {x : V} {H : Hp} {t : String} (h : tyOf x H = some t) : t ∈ tys := by
  unfold tyOf at h
  split at h
  all_goals first
    | (cases h; decide)
    | (unfold tyO at h; split at h <;> first | (cases h; decide) | (cases h))
    | (cases h)
/-- isinstance(x, T) of a plain thing -/
def gIsi : List V → Hp → VK → Prop
  | [x, .ty n], H, Q => n ∈ (["int", "bool", "str", "list", "tuple", "dict"] : List String) ∧ ∃ t, tyOf x H = some t ∧ Q (.bl (isB t n)) H
  | _, _, _ => False
section
variable {X : Cx}
theorem call_gIsi : CallR X (.builtin "isinstance") gIsi := by
  intro pins s σ H xs us Q I r h
  unfold gIsi at h
  split at h
  · obtain ⟨hn, t, ht, q⟩ := h
    exact call_isi pins s σ _ _ us Q I r ⟨_, _, .type t, .type _, _, rfl, .ty _, tyOf_ok ht, kit_ty (isB_all t (tyOf_in ht) _ hn), q⟩
  · exact h.elim
/-- isinstance(e, C) of a caught error -/
def gIsE (K : PySem.W.Frag) : List V → Hp → VK → Prop
  | [.ref a, c], H, Q => ∃ D u b, H a = some (ExA (.ref D) a) ∧ ExcC K D ∧ ClsV c u ∧ PySem.W.kitOne K (.ref D) u = some b ∧ Q (.bl b) H
  | _, _, _ => False
theorem exA_kit {pins : List (Addr × Obj)} {σ : L2.St} {H : Hp} {s : Shared} {a D : Addr} (I : Inv X pins σ H s) (h : H a = some (ExA (.ref D) a)) (C : ExcC X.K D) : ∃ P : Heap → Prop, PySem.W.KitX X.K (.ref a) (.ref D) P ∧ P s.heap := by
  obtain ⟨⟨o, fv, e, z, d⟩, -, -⟩ := I.hok a _ h
  have J : PySem.W.InstAt s.heap a o D none := by
    obtain ⟨oc, od, dt, sl⟩ := o
    obtain ⟨z1, z2⟩ := z
    dsimp only at z1 z2 d
    subst z1 z2 d
    exact ⟨e, rfl, rfl, trivial⟩
  exact ⟨_, PySem.W.handS_kitx_exc C.hg C.hk C.hs C.hd C.ha C.hn C.ht C.hm, J⟩
theorem call_gIsE : CallR X (.builtin "isinstance") (gIsE X.K) := by
  intro pins s σ H xs us Q I r h
  unfold gIsE at h
  split at h
  · obtain ⟨D, u, b, ha, C, hc, hk, q⟩ := h
    obtain ⟨u1, u2, rfl, r1, r2⟩ := vals2 r
    have e2 := hc.eq r2
    subst e2
    cases (show u1 = Value.ref _ from r1)
    obtain ⟨P, Z, p⟩ := exA_kit I ha C
    exact PySem.W.kia_one Z I.kIn p hk (fun z => nomatch z) fun tk => ⟨.bl b, _, I.tok tk, rfl, q⟩
  · exact h.elim
/-- isinstance(e, (C1, C2, ..)) of a caught error: the tuple is never seen again -/
def tIsT (K : PySem.W.Frag) (ta : TE) (tc : TA) : TE := fun σ H Q => ta σ H fun x H1 => tc σ H1 fun cs H2 => cs.length ≤ sizeLine ∧ ∃ a D us b, x = .ref a ∧ H2 a = some (ExA (.ref D) a) ∧ ExcC K D ∧ Paired ClsV cs us ∧ PySem.W.kitAny K (.ref D) us = some b ∧ Q (.bl b) H2
theorem pe_isT {a : Expr} {es : List Expr} {x1} {ta : TE} {tc : TA} {p tp pos : Pos} (hg : Gl X "isinstance") (hm : X.mg "isinstance" = none) (ha : PE X a ta) (hc : PA X es tc)
    (he : starEach [a, .Tuple es x1 tp] X.env = [(false, eval a X.env), (false, eval (.Tuple es x1 tp) X.env)] := by rfl) : PE X (.Call (.Name "isinstance" p) [a, .Tuple es x1 tp] [] pos) (tIsT X.K ta tc) := by
  refine ⟨fun pins s σ H Q I h => ?_⟩
  refine wpAny_Call_Name_kw (ld_blt I hg hm (by decide +kernel : bootBuiltins "isinstance" = some (.builtin "isinstance")) ?_ (by decide) (by decide))
  refine PyProof.Rows.callWith_builtin1 (rest := [.Tuple es x1 tp]) ?_ he rfl
  rw [he]
  show wpAny _ _ (spliced [(false, eval a X.env), (false, eval (.Tuple es x1 tp) X.env)]) _ _ _
  refine Calls.spliced_cons (thn (ha.run pins s σ H _ I h) fun u s1 ⟨x, H1, I1, rx, q1⟩ => ?_)
  refine Calls.spliced_cons (wpAny_Tuple_spliced (x1 := x1) (thn (hc.run tp pins s1 σ H1 _ I1 q1) fun us s2 hh => ?_))
  obtain ⟨cs, H2, I2, rc, hz, y, D, ws, b, ex, hy, C, hcl, hk, q⟩ := hh
  subst ex
  cases (show u = Value.ref y from rx)
  refine ⟨by rw [← rc.length]; exact hz, Calls.spliced_nil ?_⟩
  have e3 := ClsV.all hcl rc
  subst e3
  have I3 : Inv X pins σ H2 { s2 with heap := s2.heap.push { cls := .type "tuple", data := .seq us.toArray } } := I2.kept (t' := s2.toks) fun _ _ e => Heap.get?_push_of_some _ e
  obtain ⟨P, Z, p⟩ := exA_kit I3 hy C
  exact PySem.W.kia_tup Z I3.kIn p (Heap.get?_push_size _ rfl) hk (fun z => nomatch z) fun tk => ⟨.bl b, H2, I3.tok tk, rfl, q⟩

/-! ## operators by the kinds of their values -/
def gAdd : R2
  | .int i, .int j, H, Q => Q (.int (i + j)) H
  | .str i, .str j, H, Q => i.length + j.length ≤ sizeLine ∧ Q (.str (i ++ j)) H
  | .ref a, .ref b, H, Q => ∃ xs zs, H a = some (.lst xs) ∧ H b = some (.lst zs) ∧ xs.length + zs.length ≤ sizeLine ∧ ∀ p, H p = none → Q (.ref p) (upd H p (.lst (xs ++ zs)))
  | _, _, _, _ => False
theorem op_gAdd : OpR X (binaryOp .Add) gAdd := by
  intro pins s σ H x y v u Q I rx ry h
  unfold gAdd at h
  split at h
  · exact op_add pins s σ _ _ _ v u Q I rx ry ⟨_, _, rfl, rfl, h⟩
  · exact op_add_str pins s σ _ _ _ v u Q I rx ry ⟨_, _, rfl, rfl, h.1, h.2⟩
  · obtain ⟨xs, zs, h1, h2, h3, h4⟩ := h
    exact op_cat pins s σ _ _ _ v u Q I rx ry ⟨_, _, xs, zs, rfl, rfl, h1, h2, h3, h4⟩
  · exact h.elim
def gMul : R2
  | .int i, .int j, H, Q => ((-(2 ^ 64) < i ∧ i < 2 ^ 64) ∨ (-(2 ^ 64) < j ∧ j < 2 ^ 64)) ∧ Q (.int (i * j)) H
  | .str z, .int n, H, Q => (n = 0 ∨ n = 1) ∧ Q (.str (if n = 1 then z else Str.empty)) H
  | .ref a, .int k, H, Q => ∃ xs, H a = some (.lst xs) ∧ -(2 ^ 63) ≤ k ∧ k < 2 ^ 63 ∧ xs.length * k.toNat ≤ sizeLine ∧ ∀ p, H p = none → Q (.ref p) (upd H p (.lst ((List.replicate k.toNat xs).flatten)))
  | _, _, _, _ => False
theorem op_gMul : OpR X (binaryOp .Mult) gMul := by
  intro pins s σ H x y v u Q I rx ry h
  unfold gMul at h
  split at h
  · exact op_mul pins s σ _ _ _ v u Q I rx ry ⟨_, _, rfl, rfl, h.1, h.2⟩
  · rename_i z n
    obtain ⟨hn, q⟩ := h
    obtain ⟨t, rfl⟩ := rx
    obtain ⟨t', rfl⟩ := ry
    rcases hn with rfl | rfl
    · exact PySem.P.mul_str_none (by decide) (by decide) ⟨.str Str.empty, _, I.tok _, ⟨_, rfl⟩, q⟩
    · refine PySem.P.mul_str (by decide) (fun _ z => by simp at z) (fun _ z => by simp at z) ?_
      exact ⟨.str z, _, I, ⟨_, rfl⟩, q⟩
  · obtain ⟨xs, h1, h2, h3, h4, h5⟩ := h
    exact op_rep pins s σ _ _ _ v u Q I rx ry ⟨_, _, xs, rfl, rfl, h1, h2, h3, h4, h5⟩
  · exact h.elim
/-- == : flat values; else data of any depth -/
def gEq (K : PySem.W.Frag) : R2 := fun x y H Q => if flatV x && flatV y then Q (.bl (eqV x y)) H else rEqD K x y H Q
def gNe (K : PySem.W.Frag) : R2 := fun x y H Q => if flatV x && flatV y then Q (.bl (!eqV x y)) H else rNeD K x y H Q
theorem flat_eqv {K : PySem.W.Frag} {H : Hp} {x y : V} (hx : flatV x = true) (hy : flatV y = true) :
    (scal x y = true ∧ decide (x = y) = eqV x y) ∨ ∃ d e, Dp K H x d ∧ Dp K H y e ∧ SeqAt.shaped d = true ∧ SeqAt.shaped e = true ∧ PyData.eqv d e = eqV x y := by
  cases x <;> first | (cases hx; done) | skip
  all_goals (cases y <;> first | (cases hy; done) | skip)
  case bl.int b i => exact .inr ⟨_, _, .bl b, .int i, by cases b <;> decide, rfl, rfl⟩
  case int.bl i b => exact .inr ⟨_, _, .int i, .bl b, rfl, by cases b <;> decide, rfl⟩
  all_goals refine .inl ⟨rfl, ?_⟩
  all_goals first
    | rfl
    | exact dec_int
    | exact dec_bl
    | exact dec_str
theorem op_gEq (hu : X.A.units + 64 < cLine) : OpR X (compareOp .Eq) (gEq X.K) := by
  intro pins s σ H x y v u Q I rx ry h
  unfold gEq at h
  split at h
  · rename_i c
    obtain ⟨c1, c2⟩ := Bool.and_eq_true_iff.mp c
    rcases flat_eqv (K := X.K) (H := H) c1 c2 with ⟨h1, h2⟩ | ⟨d, e, h1, h2, h3, h4, h5⟩
    · exact op_eq pins s σ _ _ _ v u Q I rx ry ⟨h1, by rw [h2]; exact h⟩
    · exact op_eqD hu pins s σ _ _ _ v u Q I rx ry ⟨d, e, h1, h2, h3, h4, by rw [h5]; exact h⟩
  · exact op_eqD hu pins s σ _ _ _ v u Q I rx ry h
theorem op_gNe (hu : X.A.units + 64 < cLine) : OpR X (compareOp .NotEq) (gNe X.K) := by
  intro pins s σ H x y v u Q I rx ry h
  unfold gNe at h
  split at h
  · rename_i c
    obtain ⟨c1, c2⟩ := Bool.and_eq_true_iff.mp c
    rcases flat_eqv (K := X.K) (H := H) c1 c2 with ⟨h1, h2⟩ | ⟨d, e, h1, h2, h3, h4, h5⟩
    · exact op_ne pins s σ _ _ _ v u Q I rx ry ⟨h1, by rw [h2]; exact h⟩
    · exact op_neD hu pins s σ _ _ _ v u Q I rx ry ⟨d, e, h1, h2, h3, h4, by rw [h5]; exact h⟩
  · exact op_neD hu pins s σ _ _ _ v u Q I rx ry h
/-- abs, int(..) -/
def gAbs : List V → Hp → VK → Prop
  | [.int i], H, Q => Q (.int (i.natAbs : Int)) H
  | _, _, _ => False
theorem call_gAbs : CallR X (.builtin "abs") gAbs := by
  intro pins s σ H xs us Q I r h
  unfold gAbs at h
  split at h
  · rename_i i
    refine call_abs pins s σ _ _ us Q I r ⟨i, rfl, ?_⟩
    have e : (if i < 0 then -i else i) = (i.natAbs : Int) := by split <;> omega
    rw [e]
    exact h
  · exact h.elim
def gInt : List V → Hp → VK → Prop
  | [.int i], H, Q => Q (.int i) H
  | [.bl k], H, Q => Q (.int (if k then 1 else 0)) H
  | _, _, _ => False
theorem call_gInt : CallR X (.type "int") gInt := by
  intro pins s σ H xs us Q I r h
  unfold gInt at h
  split at h
  · exact call_int1 pins s σ _ _ us Q I r (.inl ⟨_, rfl, h⟩)
  · exact call_int1 pins s σ _ _ us Q I r (.inr ⟨_, rfl, h⟩)
  · exact h.elim
end
end G
namespace G
open PySem PySem.Spec PyProof.Rows L2
open He (ga ma fAd Fa DefD SaysD)
/-! ## what the top has written, by names -/
/-- what isinstance asks of an error's class -/
def excB (K : PySem.W.Frag) (D : Addr) : Bool :=
  (decide (PySem.W.findIn K (.ref D) "__getattribute__" = some (some (.builtin "BaseException.__getattribute__"))) && (decide (PySem.W.findIn K (.ref D) "__getattr__" = some none) && (decide (PySem.W.subIn K (.ref D) (.type "BaseException") = some true) && PySem.W.hasDictIn K D))) &&
  (decide (PySem.W.findIn K (.ref D) "__class__" = some (some (.builtin "object.__class__"))) && (decide (PySem.W.specialIn K (.builtin "object.__class__") "__get__" = some (some (.builtin "getset_descriptor.__get__"))) &&
    (decide (PySem.W.takesIn K (.builtin "object.__class__") = some true) && decide (PySem.W.mroIn K D (.type "object") = some true))))
theorem excB_ok {K : PySem.W.Frag} {D : Addr} (h : excB K D = true) : ExcC K D := by
  obtain ⟨h1, h2⟩ := He.ba h
  obtain ⟨a1, h1⟩ := He.ba h1
  obtain ⟨a2, h1⟩ := He.ba h1
  obtain ⟨a3, a4⟩ := He.ba h1
  obtain ⟨b1, h2⟩ := He.ba h2
  obtain ⟨b2, h2⟩ := He.ba h2
  obtain ⟨b3, b4⟩ := He.ba h2
  exact ⟨of_decide_eq_true a1, of_decide_eq_true a2, of_decide_eq_true a3, a4, of_decide_eq_true b1, of_decide_eq_true b2, of_decide_eq_true b3, of_decide_eq_true b4⟩
/-- d is a class under c -/
def under (d c : Str) : Bool := d == c || c == "KeepError"
/-- the errors' classes -/
def exOk (L : List Str) (K : PySem.W.Frag) : Bool := L.all fun d => excB K (ga K d) && (decide (PySem.W.kitOne K (.ref (ga K d)) (.type "ValueError") = some true) &&
  (L.all fun c => decide (PySem.W.kitOne K (.ref (ga K d)) (.ref (ga K c)) = some (under d c)) && decide (PySem.W.exmOne K (.ref (ga K d)) (.ref (ga K c)) = some (under d c))))
structure Told (fa : List Fa) (fn : List DefD) (xl : List Str) (K : PySem.W.Frag) (mg : Str → Option Value) : Prop where
  ex : ∃ h : Heap, K.In h ∧ h.Ns mainGlobals mg
  says : SaysD fa fn K
  errs : exOk xl K = true
/-- the head's look -/
def lookG (n : Nat) (fa : List Fa) (fn : List DefD) (xl : List Str) (g : Addr → Option Obj) : He.AlD × Bool := (He.obsDG n fa fn g, exOk xl (He.frG g (He.asD g n)))
def hookG (n : Nat) (fa : List Fa) (fn : List DefD) (xl : List Str) : PySem.W.Hook where
  α := He.AlD × Bool
  obs := fun s => lookG n fa fn xl s.heap.get?
  val := fun _ => (He.valD fn, true)
  says := fun _ h => ∃ K : PySem.W.Frag, K.In h ∧ SaysD fa fn K ∧ exOk xl K = true
  of := fun _ _ e => ⟨_, He.frG_in, congrArg (fun z : He.AlD × Bool => z.1) e, congrArg (fun z : He.AlD × Bool => z.2) e⟩
  keeps := fun _ _ _ ⟨K, hK, c⟩ k => ⟨K, PySem.W.Frag.In.keeps hK k, c⟩
theorem lookG_eq {n : Nat} {fa : List Fa} {fn : List DefD} {xl : List Str} {g : Addr → Option Obj} {s : Shared} (h : ∀ a, g a = s.heap.get? a) : lookG n fa fn xl g = (hookG n fa fn xl).obs s := by
  have e : g = s.heap.get? := funext h
  rw [e]
  rfl
section
variable {fa : List Fa} {fn : List DefD} {xl : List Str} {K : PySem.W.Frag} {mg : Str → Option Value}
theorem Told.glo (T : Told fa fn xl K mg) (i : Nat) {x : Str} (h : fa[i]? = some (.glo x) := by rfl) : mg x = some (.ref (ga K x)) := let ⟨_, X, N⟩ := T.ex; He.glo_ok X N (T.says.fact i h)
theorem Told.free (T : Told fa fn xl K mg) (i : Nat) {x : Str} (h : fa[i]? = some (.free x) := by rfl) : mg x = none := let ⟨_, X, N⟩ := T.ex; He.free_ok X N (T.says.fact i h)
theorem Told.num (T : Told fa fn xl K mg) (i : Nat) {x : Str} {n : Int} (h : fa[i]? = some (.int x n) := by rfl) : ∃ t, mg x = some (.int n t) := let ⟨_, X, N⟩ := T.ex; He.int_ok X N (T.says.fact i h)
theorem Told.txt (T : Told fa fn xl K mg) (i : Nat) {x z : Str} (h : fa[i]? = some (.str x z) := by rfl) : ∃ t, mg x = some (.str z t) := let ⟨_, X, N⟩ := T.ex; He.str_ok X N (T.says.fact i h)
theorem Told.err (T : Told fa fn xl K mg) {d : Str} (h : d ∈ xl) : ExcC K (ga K d) ∧ PySem.W.kitOne K (.ref (ga K d)) (.type "ValueError") = some true ∧
    ∀ c ∈ xl, PySem.W.kitOne K (.ref (ga K d)) (.ref (ga K c)) = some (under d c) ∧ PySem.W.exmOne K (.ref (ga K d)) (.ref (ga K c)) = some (under d c) := by
  obtain ⟨h1, h2⟩ := He.ba (List.all_eq_true.mp T.errs d h)
  obtain ⟨h3, h4⟩ := He.ba h2
  refine ⟨excB_ok h1, of_decide_eq_true h3, fun c hc => ?_⟩
  obtain ⟨h5, h6⟩ := He.ba (List.all_eq_true.mp h4 c hc)
  exact ⟨of_decide_eq_true h5, of_decide_eq_true h6⟩
/-- isinstance(e, c) of an error of class d -/
theorem Told.isE (T : Told fa fn xl K mg) {d c : Str} {a : Addr} {H : Hp} {Q : VK} (ha : H a = some (ExA (.ref (ga K d)) a)) (hd : d ∈ xl) (hc : c ∈ xl) (q : Q (.bl (under d c)) H) : gIsE K [.ref a, .ref (ga K c)] H Q :=
  ⟨_, _, _, ha, (T.err hd).1, .own _, ((T.err hd).2.2 c hc).1, q⟩
theorem Told.isY (T : Told fa fn xl K mg) {d c : Str} {a : Addr} {H : Hp} {Q : VK} (ha : H a = some (ExA (.ref (ga K d)) a)) (hd : d ∈ xl) (hc : c ∈ xl) (e : under d c = true) (q : Q (.bl true) H) : gIsE K [.ref a, .ref (ga K c)] H Q := T.isE ha hd hc (e ▸ q)
theorem Told.isN (T : Told fa fn xl K mg) {d c : Str} {a : Addr} {H : Hp} {Q : VK} (ha : H a = some (ExA (.ref (ga K d)) a)) (hd : d ∈ xl) (hc : c ∈ xl) (e : under d c = false) (q : Q (.bl false) H) : gIsE K [.ref a, .ref (ga K c)] H Q := T.isE ha hd hc (e ▸ q)
theorem Told.isV (T : Told fa fn xl K mg) {d : Str} {a : Addr} {H : Hp} {Q : VK} (ha : H a = some (ExA (.ref (ga K d)) a)) (hd : d ∈ xl) (q : Q (.bl true) H) : gIsE K [.ref a, .ty "ValueError"] H Q :=
  ⟨_, _, _, ha, (T.err hd).1, .ty _, (T.err hd).2.1, q⟩
end
section
variable {fa : List Fa} {fn : List DefD} {xl : List Str} {K : PySem.W.Frag} {mg : Str → Option Value}
/-- an error of class d reaches «except c», c over it -/
theorem Told.caught (T : Told fa fn xl K mg) {d c : Str} {i : Nat} {ts : TS} {Wo : WX} {D : Ends} {σ : L2.St} {H : Hp} (hd : d ∈ xl) (hc : c ∈ xl) (hu : under d c = true)
    (h : ∀ a, H a = none → ts { nx := fun σ' H' => D.nx (σ'.set i none) H', rt := D.rt, bk := fun σ' H' => D.bk (σ'.set i none) H', ct := fun σ' H' => D.ct (σ'.set i none) H' } (σ.set i (some (.ref a))) (upd H a (ExA (.ref (ga K d)) a))) :
    wTr K (.ref (ga K c)) i ts Wo D (.ref (ga K d)) none σ H :=
  ⟨true, by rw [((T.err hd).2.2 c hc).2, hu], fun _ => ⟨rfl, h⟩, fun z => by cases z⟩
end
/-- the function object at f -/
def fdAt (K : PySem.W.Frag) (f : Addr) : FuncData := match K.lookup f with
  | some ⟨_, _, .func fd, _⟩ => fd
  | _ => PySem.W.fnOf "" "" { posonlyargs := [], args := [], vararg := none, kwonlyargs := [], kw_defaults := [], kwarg := none, defaults := [] } [] { kind := .function, names := [], isGenerator := false, isCoroutine := false } .none .none .none .none none .none .none
theorem fdAt_of {K : PySem.W.Frag} {x qual : Str} {params : Arguments} {body : List Stmt} {scope : Scope} {dvs : List V} {kws : List (Str × V)} {f : Addr} {fd : FuncData} (F : FunD K x qual params body scope dvs kws f fd) : fd = fdAt K f := by
  obtain ⟨oc, od, dV, kV, doc, pm, an, cdv, ct, osl, rfl, lk, -⟩ := F.ex
  unfold fdAt
  rw [lk]
/-- every argument is given -/
def Bnd (fd : FuncData) (ps : List Str) : Prop := ∀ (s : Shared) (us : List Value), us.length = ps.length → BindsTo s fd ⟨us, []⟩ (ps.zip us)
theorem Bnd.to {K : PySem.W.Frag} {fd : FuncData} {ps : List Str} (b : Bnd fd ps) : Binds K fd ps [] := fun s us _ hl => by
  rw [List.append_nil] at hl ⊢
  exact b s us hl
/-- a def of the module: its promise sp -/
structure Fn (P : Program) (w : World) (K : PySem.W.Frag) (mg : Str → Option Value) (base : Heap) (k : Nat) (x : Str) (ps : List Str) (sp : Sp) : Prop where
  ok : FnOk P w K mg base (L2.CX P w) k (ga K x) (fdAt K (ga K x)) ps sp
  bd : Bnd (fdAt K (ga K x)) ps
  kp : PySem.W.keepIn K (.ref (ga K x)) = true
  at_ : mg x = some (.ref (ga K x))
/-- nothing is raised -/
theorem quiet {P : Program} {w : World} {K : PySem.W.Frag} {mg : Str → Option Value} {base : Heap} {k : Nat} {f : Addr} {fd : FuncData} {ps : List Str} {sp : Sp} (F : FnOk P w K mg base (L2.CX P w) k f fd ps sp) (h0 : ∀ vs H Q E, sp vs H Q E → sp vs H Q E0) : FnOk P w K mg base CX0 k f fd ps sp :=
  ⟨F.len, fun A outer s H args us vs Q E hr e0 hb r hsp => codeAny_mono (F.run A outer s H args us vs Q E0 hr e0 hb r (h0 _ _ _ _ hsp)) fun r s' hq => by
    cases r with
    | error e =>
      obtain ⟨_, _, _, _, _, _, _, _, _, _, _, _, y⟩ := hq
      exact y.elim
    | ok fl => cases fl with
      | ret u => exact hq
      | next => exact hq.elim
      | brk => exact hq.elim
      | cont => exact hq.elim⟩
/-- .. that may be called in an except suite, too -/
structure FnH (P : Program) (w : World) (K : PySem.W.Frag) (mg : Str → Option Value) (base : Heap) (k : Nat) (x : Str) (ps : List Str) (sp : Sp) : Prop where
  ok : FnN P w K mg base k (ga K x) (fdAt K (ga K x)) ps sp
  bd : Bnd (fdAt K (ga K x)) ps
  kp : PySem.W.keepIn K (.ref (ga K x)) = true
  at_ : mg x = some (.ref (ga K x))
section
variable {fa : List Fa} {fn : List DefD} {xl : List Str} {P : Program} {w : World} {K : PySem.W.Frag} {mg : Str → Option Value} {base : Heap}
theorem Told.mkFn (T : Told fa fn xl K mg) (i j : Nat) {d : DefD} {x : Str} {N ps : List Str} {k : Nat} {sp : Sp} (hd : fn[i]? = some d) (hx : d.at_ = (x, none)) (h0 : d.dfl = []) (h1 : d.kwd = []) (hg : fa[j]? = some (.glo x)) (S : FnScope N ps d.scope)
    (bnd : ∀ (kV doc pm : Value) (an : Option Addr) (cdv ct : Value) (us : List Value), us.length = ps.length → bindArgs (PySem.W.fnOf d.name d.qual d.params d.body d.scope .none kV doc pm an cdv ct) ⟨us, []⟩ = pure (ps.zip us))
    (len : ∀ vs H Q E, sp vs H Q E → vs.length = ps.length)
    (body : ∀ (cdv : Value) (A : Around) (outer : List Env) (s : Shared) (H : Hp) (vs : List V) (Q : VK) (E : XK), Room k (A.deeper (envOfC d.qual d.scope s.heap.objs.size (ga K x) cdv)) → sp vs H Q E →
      ∃ t, PSs (cxOf (L2.CX P w) P w K mg base N d.qual d.scope (ga K x) cdv A outer s H E) d.body t ∧ t { nx := fun _ H' => Q .non H', rt := Q } (start N vs) H) : Fn P w K mg base (k + 1) x ps sp := by
  obtain ⟨fd, F⟩ := T.says.def_ i hd
  have e : fAd K d.at_ = ga K x := by rw [hx]; rfl
  have e0 : d.dvs K = [] := by unfold DefD.dvs; rw [h0]; rfl
  have e1 : d.kws K = [] := by unfold DefD.kws; rw [h1]; rfl
  rw [e, e0, e1] at F
  have ef := fdAt_of F
  subst ef
  exact ⟨F.ok S len body, F.bindsA bnd, F.kp, T.glo j hg⟩
theorem Told.mkFnH (T : Told fa fn xl K mg) (i j : Nat) {d : DefD} {x : Str} {N ps : List Str} {k : Nat} {sp : Sp} (hd : fn[i]? = some d) (hx : d.at_ = (x, none)) (h0 : d.dfl = []) (h1 : d.kwd = []) (hg : fa[j]? = some (.glo x)) (S : FnScope N ps d.scope)
    (bnd : ∀ (kV doc pm : Value) (an : Option Addr) (cdv ct : Value) (us : List Value), us.length = ps.length → bindArgs (PySem.W.fnOf d.name d.qual d.params d.body d.scope .none kV doc pm an cdv ct) ⟨us, []⟩ = pure (ps.zip us))
    (len : ∀ vs H Q E, sp vs H Q E → vs.length = ps.length)
    (body : ∀ (cdv : Value) (A : Around) (outer : List Env) (s : Shared) (H : Hp) (vs : List V) (Q : VK), RoomN k (A.deeper (envOfC d.qual d.scope s.heap.objs.size (ga K x) cdv)) → sp vs H Q E0 →
      ∃ t, PSs (cxN P w K mg base N d.qual d.scope (ga K x) cdv A outer s H) d.body t ∧ t { nx := fun _ H' => Q .non H', rt := Q } (start N vs) H) : FnH P w K mg base (k + 1) x ps sp := by
  obtain ⟨fd, F⟩ := T.says.def_ i hd
  have e : fAd K d.at_ = ga K x := by rw [hx]; rfl
  have e0 : d.dvs K = [] := by unfold DefD.dvs; rw [h0]; rfl
  have e1 : d.kws K = [] := by unfold DefD.kws; rw [h1]; rfl
  rw [e, e0, e1] at F
  have ef := fdAt_of F
  subst ef
  exact ⟨fn_ofN F S len body, F.bindsA bnd, F.kp, T.glo j hg⟩
end
section
variable {X : Cx} {k : Nat} {ps : List Str} {sp : Sp} {W : WX} {x : Str} {p pos : Pos} {e : Expr} {es : List Expr} {t : TA}
theorem pe_fn (tk : Takes X W) (F : Fn X.prog X.w X.K X.mg X.base k x ps sp) (hr : Room k X.A) (hg : Gl X x) (ha : PA X (e :: es) t) (hdb : (x == ("__debug__" : Str)) = false := by decide)
    (he : starEach (e :: es) X.env = (false, eval e X.env) :: starEach es X.env := by rfl) (hpl : (backTo pos (starEach es X.env)).any (·.1) = false := by rfl) : PE X (.Call (.Name x p) (e :: es) [] pos) (tCallW sp W t) := by
  exact pe_callW tk F.ok hr hg F.at_ F.kp F.bd.to ha hdb he hpl
theorem pe_fn0 (tk : Takes X W) (F : Fn X.prog X.w X.K X.mg X.base k x ps sp) (hr : Room k X.A) (hg : Gl X x) (hdb : (x == ("__debug__" : Str)) = false := by decide) : PE X (.Call (.Name x p) [] [] pos) (tCallW sp W tNil) := by
  exact pe_callW0 tk F.ok hr hg F.at_ F.kp F.bd.to hdb
theorem pe_fnH (F : FnH X.prog X.w X.K X.mg X.base k x ps sp) (hr : RoomN k X.A) (hg : Gl X x) (ha : PA X (e :: es) t) (hdb : (x == ("__debug__" : Str)) = false := by decide)
    (he : starEach (e :: es) X.env = (false, eval e X.env) :: starEach es X.env := by rfl) (hpl : (backTo pos (starEach es X.env)).any (·.1) = false := by rfl) : PE X (.Call (.Name x p) (e :: es) [] pos) (tCallN sp t) := by
  exact pe_callN F.ok hr hg F.at_ F.kp F.bd.to ha hdb he hpl
theorem call_gLen : CallR X (.builtin "len") (L2.rLen X.K) := call_len
theorem call_lenK {K : PySem.W.Frag} (hK : X.K = K) : CallR X (.builtin "len") (L2.rLen K) := hK ▸ call_len
theorem op_eqK {K : PySem.W.Frag} (hK : X.K = K) (hu : X.A.units + 64 < cLine) : OpR X (compareOp .Eq) (gEq K) := hK ▸ op_gEq hu
theorem op_neK {K : PySem.W.Frag} (hK : X.K = K) (hu : X.A.units + 64 < cLine) : OpR X (compareOp .NotEq) (gNe K) := hK ▸ op_gNe hu
theorem ix_seqK {K : PySem.W.Frag} (hK : X.K = K) : IxR X (rIx K) := hK ▸ ix_seq
theorem call_isEK {K : PySem.W.Frag} (hK : X.K = K) : CallR X (.builtin "isinstance") (gIsE K) := hK ▸ call_gIsE
theorem sl_listK {K : PySem.W.Frag} (hK : X.K = K) : SlR X (rSlL K) := hK ▸ sl_list
theorem pi_listK {K : PySem.W.Frag} {tg l : Expr} {tl : TE} (hK : X.K = K) (h : PE X l tl) : PI X tg l (iList K tl) := hK ▸ pi_list h
def rListG (K : PySem.W.Frag) : List V → Hp → VK → Prop := fun xs H Q => ∃ p ys, xs = [.ref p] ∧ (SqL K H p ys ∨ SqT K H p ys) ∧ ∀ l, H l = none → Q (.ref l) (upd H l (.lst ys))
theorem call_listK {K : PySem.W.Frag} (hK : X.K = K) : CallR X (.type "list") (rListG K) := hK ▸ call_list_of
theorem pe_clsK {K : PySem.W.Frag} (hK : X.K = K) (h : X.mg x = some (.ref (ga K x))) (hg : Gl X x) (hdb : (x == ("__debug__" : Str)) = false := by decide) : PE X (.Name x pos) (tC (.ref (ga K x))) := pe_glob hg h rfl hdb
/-- a constant of the module -/
theorem pe_num {n : Int} (h : ∃ t, X.mg x = some (.int n t)) (hg : Gl X x) (hdb : (x == ("__debug__" : Str)) = false := by decide) : PE X (.Name x pos) (tC (.int n)) := by
  obtain ⟨t, e⟩ := h
  exact pe_glob hg e ⟨t, rfl⟩ hdb
theorem pe_txt {z : Str} (h : ∃ t, X.mg x = some (.str z t)) (hg : Gl X x) (hdb : (x == ("__debug__" : Str)) = false := by decide) : PE X (.Name x pos) (tC (.str z)) := by
  obtain ⟨t, e⟩ := h
  exact pe_glob hg e ⟨t, rfl⟩ hdb
/-- a class of the module as a value; a built-in class -/
theorem pe_cls (h : X.mg x = some (.ref (ga X.K x))) (hg : Gl X x) (hdb : (x == ("__debug__" : Str)) = false := by decide) : PE X (.Name x pos) (tC (.ref (ga X.K x))) := pe_glob hg h rfl hdb
theorem pe_ty {T : String} (hm : X.mg x = none) (hv : bootBuiltins x = some (.type T)) (hg : Gl X x) (hn : x ≠ "__name__" := by decide) (hdb : (x == ("__debug__" : Str)) = false := by decide) : PE X (.Name x pos) (tC (.ty T)) := pe_bltn hg hm hv rfl hn hdb
/-- raise C('..') -/
def tRaise (C : Addr) (W : WX) : TS := fun _ σ H => W (.ref C) none σ H
theorem ps_raiseK {K : PySem.W.Frag} {m : Str} {j : Nat} {p2 pos2 : Pos} (hK : X.K = K) (hc : X.calm = true) (tk : Takes X W) (h : (Fa.exc x).ok K = true) (hm : X.mg x = some (.ref (ga K x))) (hg : Gl X x) (hdb : (x == ("__debug__" : Str)) = false := by decide) :
    PS X (.Raise (some (.Call (.Name x p) [.Constant (.str m) j p2] [] pos)) none pos2) (tRaise (ga K x) W) := by
  subst hK
  obtain ⟨h1, h2, h3, h4⟩ := He.exc_ok h
  exact ps_raise hc tk (pmk_own PySem.F.excBase_ValueError h1 hm h2 (raises_own h3 h4) hg hdb)
theorem ps_raiseW {m : Str} {j : Nat} {p2 pos2 : Pos} (hc : X.calm = true) (tk : Takes X W) (h : (Fa.exc x).ok X.K = true) (hm : X.mg x = some (.ref (ga X.K x))) (hg : Gl X x) (hdb : (x == ("__debug__" : Str)) = false := by decide) :
    PS X (.Raise (some (.Call (.Name x p) [.Constant (.str m) j p2] [] pos)) none pos2) (tRaise (ga X.K x) W) := by
  obtain ⟨h1, h2, h3, h4⟩ := He.exc_ok h
  exact ps_raise hc tk (pmk_own PySem.F.excBase_ValueError h1 hm h2 (raises_own h3 h4) hg hdb)
end

/-! ## readings, step by step -/
section
variable {σ : L2.St} {H : Hp} {Q : VK} {QT : Bool → Hp → Prop} {QA : List V → Hp → Prop} {D : Ends} {v x y z : V} {i : Nat} {o : Option V} {ta tb te tc : TE} {t u c : TT} {ts us : TS} {as : TA} {r r' : R2} {g : TG} {b : Bool}
theorem x_K {CX : CXT} {P : Program} {w : World} {K : PySem.W.Frag} {mg : Str → Option Value} {base : Heap} {N : List Str} {qual : Str} {scope : Scope} {f : Addr} {cd : Value} {A : Around} {outer : List Env} {s : Shared} {E : XK} : (cxOf CX P w K mg base N qual scope f cd A outer s H E).K = K := rfl
theorem x_var0 : tVar 0 (some v :: σ) H Q = Q v H := propext ⟨fun ⟨_, e, q⟩ => by cases e; exact q, fun q => ⟨v, rfl, q⟩⟩
theorem x_varS : tVar (i + 1) (o :: σ) H Q = tVar i σ H Q := rfl
theorem x_c : tC v σ H Q = Q v H := rfl
theorem x_op : tOp r ta tb σ H Q = ta σ H fun x H1 => tb σ H1 fun y H2 => r x y H2 Q := rfl
theorem x_un {r : V → Hp → VK → Prop} : tUn r ta σ H Q = ta σ H fun x H1 => r x H1 Q := rfl
theorem x_cb {r : List V → Hp → VK → Prop} : tCB r as σ H Q = as σ H fun vs H1 => r vs H1 Q := rfl
theorem x_nil : tNil σ H QA = QA [] H := rfl
theorem x_cons : tCons te as σ H QA = te σ H fun x H1 => as σ H1 fun xs H2 => QA (x :: xs) H2 := rfl
theorem x_test : tTest te σ H QT = te σ H fun x H1 => ∃ k, x = .bl k ∧ QT k H1 := rfl
theorem x_b : tB te σ H QT = te σ H fun x H1 => ∃ k, x = .bl k ∧ QT k H1 := rfl
theorem x_ex {P : Bool → Prop} : (∃ k, V.bl b = .bl k ∧ P k) = P b := propext ⟨fun ⟨_, e, q⟩ => by cases e; exact q, fun q => ⟨b, rfl, q⟩⟩
theorem x_and : tAnd t u σ H QT = t σ H fun c H1 => if c = true then u σ H1 QT else QT false H1 := rfl
theorem x_or : tOr t u σ H QT = t σ H fun c H1 => if c = true then QT true H1 else u σ H1 QT := rfl
theorem x_not : tNot t σ H QT = t σ H fun c H1 => QT (!c) H1 := rfl
theorem x_andV : tAndV ta tb σ H Q = ta σ H fun x H1 => ∃ c, x = .bl c ∧ if c = true then tb σ H1 Q else Q (.bl false) H1 := rfl
theorem x_orV : tOrV ta tb σ H Q = ta σ H fun x H1 => ∃ c, x = .bl c ∧ if c = true then Q (.bl true) H1 else tb σ H1 Q := rfl
theorem x_notV : tNotV ta σ H Q = ta σ H fun x H1 => ∃ c, x = .bl c ∧ Q (.bl (!c)) H1 := rfl
theorem x_tif : tIf t ta tb σ H Q = t σ H fun c H1 => if c = true then ta σ H1 Q else tb σ H1 Q := rfl
theorem x_chain : tChain r r' ta tb tc σ H Q = ta σ H fun x H1 => tb σ H1 fun y H2 => r x y H2 fun z H3 => ∃ k, z = .bl k ∧ (if k = true then tc σ H3 fun u H4 => r' y u H4 Q else Q (.bl false) H3) := rfl
theorem x_menu : tMenu as te σ H Q = as σ H fun xs H1 => xs.length ≤ sizeLine ∧ te σ H1 fun y H2 => ∃ i v, y = .int i ∧ atI xs i = some v ∧ Q v H2 := rfl
theorem x_menuI {xs : List V} {n : Int} {P : V → Prop} : (∃ i v, V.int n = .int i ∧ atI xs i = some v ∧ P v) = ∃ v, atI xs n = some v ∧ P v := propext ⟨fun ⟨_, w, e, q⟩ => by cases e; exact ⟨w, q⟩, fun ⟨w, q⟩ => ⟨n, w, rfl, q⟩⟩
theorem x_lst : tLst as σ H Q = as σ H fun xs H1 => xs.length ≤ sizeLine ∧ ∀ p, H1 p = none → Q (.ref p) (upd H1 p (.lst xs)) := rfl
theorem x_tup : tTup as σ H Q = as σ H fun xs H1 => xs.length ≤ sizeLine ∧ ∀ p, H1 p = none → Q (.ref p) (upd H1 p (.tup xs)) := rfl
theorem x_dnew : tDNewK σ H Q = ∀ p, H p = none → Q (.ref p) (upd H p (.dK [])) := rfl
theorem x_callW {sp : Sp} {W : WX} : tCallW sp W as σ H Q = as σ H fun vs H1 => sp vs H1 Q fun c d H2 => W c d σ H2 := rfl
theorem x_callN {sp : Sp} : tCallN sp as σ H Q = as σ H fun vs H1 => sp vs H1 Q E0 := rfl
theorem x_seq : tSeq ts us D σ H = ts { D with nx := us D } σ H := rfl
theorem x_next : tNext D σ H = D.nx σ H := rfl
theorem x_ret : tRet te D σ H = te σ H D.rt := rfl
theorem x_retN : tRetN D σ H = D.rt .non H := rfl
theorem x_drop : tDrop te D σ H = te σ H fun _ H1 => D.nx σ H1 := rfl
theorem x_ifS : tIfS c ts us D σ H = c σ H fun b H1 => if b = true then ts D σ H1 else us D σ H1 := rfl
theorem x_asg : tAsg te g D σ H = te σ H fun x H1 => g x σ H1 D.nx := rfl
theorem x_name {N : L2.St → Hp → Prop} : gName i v σ H N = N (σ.set i (some v)) H := rfl
theorem x_raise {C : Addr} {W : WX} : tRaise C W D σ H = W (.ref C) none σ H := rfl
theorem x_start {N : List Str} {n : Str} {vs : List V} : start (n :: N) (v :: vs) = some v :: start N vs := by
  unfold L2.start
  simp only [List.map_cons, List.length_cons, List.cons_append, Nat.add_sub_add_right]
theorem x_start0 {N : List Str} : start N [] = List.replicate N.length none := by
  unfold L2.start
  simp
theorem q_str {a b : Str} (q : Q (.str a) H) (e : a = b) : Q (.str b) H := e ▸ q
theorem r_i0 {g : Int → Int → V} {a b : Int} : rI0 g (.int a) (.int b) H Q = Q (g a b) H := propext ⟨fun ⟨_, _, e, e', q⟩ => by cases e; cases e'; exact q, fun q => ⟨a, b, rfl, rfl, q⟩⟩
theorem r_i {C : Int → Int → Prop} {g : Int → Int → V} {a b : Int} : rI C g (.int a) (.int b) H Q = (C a b ∧ Q (g a b) H) := propext ⟨fun ⟨_, _, e, e', q⟩ => by cases e; cases e'; exact q, fun q => ⟨a, b, rfl, rfl, q⟩⟩
theorem r_u {g : Int → V} {a : Int} : rU g (.int a) H Q = Q (g a) H := propext ⟨fun ⟨_, e, q⟩ => by cases e; exact q, fun q => ⟨a, rfl, q⟩⟩
theorem r_addI {a b : Int} : gAdd (.int a) (.int b) H Q = Q (.int (a + b)) H := rfl
theorem r_addS {a b : Str} : gAdd (.str a) (.str b) H Q = (a.length + b.length ≤ sizeLine ∧ Q (.str (a ++ b)) H) := rfl
theorem r_mulI {a b : Int} : gMul (.int a) (.int b) H Q = (((-(2 ^ 64) < a ∧ a < 2 ^ 64) ∨ (-(2 ^ 64) < b ∧ b < 2 ^ 64)) ∧ Q (.int (a * b)) H) := rfl
theorem r_mulS {a : Str} {b : Int} : gMul (.str a) (.int b) H Q = ((b = 0 ∨ b = 1) ∧ Q (.str (if b = 1 then a else Str.empty)) H) := rfl
theorem r_eqI {K : PySem.W.Frag} {a b : Int} : gEq K (.int a) (.int b) H Q = Q (.bl (decide (a = b))) H := by
  show (if true = true then Q (.bl (a == b)) H else rEqD K (.int a) (.int b) H Q) = _
  rw [if_pos (rfl : true = true), Bool.beq_eq_decide_eq]
theorem r_neI {K : PySem.W.Frag} {a b : Int} : gNe K (.int a) (.int b) H Q = Q (.bl (!decide (a = b))) H := by
  show (if true = true then Q (.bl (!(a == b))) H else rNeD K (.int a) (.int b) H Q) = _
  rw [if_pos (rfl : true = true), Bool.beq_eq_decide_eq]
theorem r_eqF {K : PySem.W.Frag} (hx : flatV x = true) (hy : flatV y = true) : gEq K x y H Q = Q (.bl (eqV x y)) H := by unfold gEq; rw [hx, hy]; rfl
theorem r_neF {K : PySem.W.Frag} (hx : flatV x = true) (hy : flatV y = true) : gNe K x y H Q = Q (.bl (!eqV x y)) H := by unfold gNe; rw [hx, hy]; rfl
theorem r_eqS {K : PySem.W.Frag} {a b : Str} : gEq K (.str a) (.str b) H Q = Q (.bl (decide (a = b))) H := by
  show (if true = true then Q (.bl (a == b)) H else rEqD K (.str a) (.str b) H Q) = _
  rw [if_pos (rfl : true = true), Bool.beq_eq_decide_eq]
theorem r_neS {K : PySem.W.Frag} {a b : Str} : gNe K (.str a) (.str b) H Q = Q (.bl (!decide (a = b))) H := by
  show (if true = true then Q (.bl (!(a == b))) H else rNeD K (.str a) (.str b) H Q) = _
  rw [if_pos (rfl : true = true), Bool.beq_eq_decide_eq]
theorem n_ten : Int.natAbs 10 < 18446744073709551616 := by decide
theorem c_div {i j : Int} : CDiv i j = (0 < j ∧ j < 1073741824) := rfl
theorem c_pow {i j : Int} : CPow i j = (0 ≤ j ∧ j ≤ 1000000 ∧ i.natAbs < 2 ^ 64) := rfl
theorem r_absI {a : Int} : gAbs [.int a] H Q = Q (.int (a.natAbs : Int)) H := rfl
theorem r_intI {a : Int} : gInt [.int a] H Q = Q (.int a) H := rfl
theorem r_intB {k : Bool} : gInt [.bl k] H Q = Q (.int (if k then 1 else 0)) H := rfl
theorem r_lenL {K : PySem.W.Frag} {a : Addr} {xs : List V} (h : H a = some (.lst xs)) (q : Q (.int (xs.length : Int)) H) : L2.rLen K [.ref a] H Q := ⟨_, _, rfl, .inl ⟨_, SqL.of h, rfl⟩, q⟩
end
end G
namespace G
open PySem PySem.Spec PyProof.Rows L2
open He (ga ma fAd Fa DefD SaysD)
/-! ## classes of the module: fields, methods, instances -/
section
variable {fa : List Fa} {fn : List DefD} {xl : List Str} {K : PySem.W.Frag} {mg : Str → Option Value}
theorem Told.cls (T : Told fa fn xl K mg) (i : Nat) {x : Str} (h : fa[i]? = some (.cls x) := by rfl) : Cls K (ga K x) := He.cls_ok (T.says.fact i h)
theorem Told.noat (T : Told fa fn xl K mg) (i : Nat) {x f : Str} (h : fa[i]? = some (.noat x f) := by rfl) : NoAttr K (ga K x) f := He.noat_ok (T.says.fact i h)
end
/-- x holds v in its field f, an instance of the class at C -/
def FldIs (C : Addr) (f : Str) (x : V) (H : Hp) (v : V) : Prop := ∃ a dx fs, x = .ref a ∧ H a = some (.ins C dx fs) ∧ fs.lookup f = some v
theorem fldIs {C : Addr} {f : Str} {a dx : Addr} {H : Hp} {fs : List (Str × V)} {v : V} (h : H a = some (.ins C dx fs)) (e : fs.lookup f = some v := by rfl) : FldIs C f (.ref a) H v := ⟨a, dx, fs, rfl, h, e⟩
def gFld (C : Addr) (ta : TE) (f : Str) : TE := fun σ H Q => ta σ H fun x H1 => ∃ v, FldIs C f x H1 v ∧ Q v H1
def gSetF (C : Addr) (ta tv : TE) (f : Str) : TS := fun D σ H => tv σ H fun y H1 => ta σ H1 fun x H2 => ∃ a dx fs, x = .ref a ∧ H2 a = some (.ins C dx fs) ∧ fs.length < 1000 ∧ D.nx σ (upd H2 a (.ins C dx (putF f y fs)))
section
variable {X : Cx} {C : Addr} {o e value : Expr} {f : Str} {pos pos' : Pos} {ta tv : TE}
theorem pe_fldC (c : Cls X.K C) (n : NoAttr X.K C f) (he : PE X e ta) (hb : attributeBase e f X.env (eval e X.env) = eval e X.env := by rfl) : PE X (.Attribute e f pos) (gFld C ta f) := by
  refine ⟨fun pins s σ H Q I h => attr_of hb (thn (he.run pins s σ H _ I h) fun u s1 hh => ?_)⟩
  obtain ⟨x, H1, I1, rx, v, ⟨a, dx, fs, ex, ea, l⟩, q⟩ := hh
  subst ex
  obtain rfl : u = Value.ref a := rx
  exact getattr_ok I1 ea c n l fun _ _ I2 ru => ⟨v, H1, I2, ru, q⟩
theorem ps_fldC (c : Cls X.K C) (n : NoAttr X.K C f) (ha : PE X o ta) (hv : PE X value tv) (hs : swapsWith value (some (.Attribute o f pos')) pos.line X.env = pure false := by rfl) : PS X (.Assign [.Attribute o f pos'] value pos) (gSetF C ta tv f) := by
  refine ⟨fun pins s σ H D I h => plainObj_wpAny_Assign_Attribute (thn (hv.run pins s σ H _ I h) fun u s1 hh => ?_) hs⟩
  obtain ⟨y, H1, I1, ry, q⟩ := hh
  refine thn (ha.run pins s1 σ H1 _ I1 q) fun ov s2 h2 => ?_
  obtain ⟨x, H2, I2, rx, a, dx, fs, ex, ea, l, q2⟩ := h2
  subst ex
  obtain rfl : ov = Value.ref a := rx
  exact setattr_ok I2 ea c n l ry fun _ I3 => ⟨σ, _, I3, q2⟩
end
/-- a method of a class of the module: its promise -/
structure Mt (P : Program) (w : World) (K : PySem.W.Frag) (mg : Str → Option Value) (base : Heap) (k : Nat) (C m : Str) (ps : List Str) (sp : Sp) : Prop where
  ok : FnOk P w K mg base (L2.CX P w) k (ma K (ga K C) m) (fdAt K (ma K (ga K C) m)) ps sp
  bd : Bnd (fdAt K (ma K (ga K C) m)) ps
  me : Meth K (ga K C) m (ma K (ga K C) m)
  cl : Cls K (ga K C)
/-- the __init__ of a class -/
structure Mi (P : Program) (w : World) (K : PySem.W.Frag) (mg : Str → Option Value) (base : Heap) (k : Nat) (C : Str) (ps : List Str) (sp : Sp) : Prop where
  ok : FnOk P w K mg base (L2.CX P w) k (ma K (ga K C) "__init__") (fdAt K (ma K (ga K C) "__init__")) ps sp
  bd : Bnd (fdAt K (ma K (ga K C) "__init__")) ps
  mkr : Mk K (ga K C) (ma K (ga K C) "__init__")
  at_ : mg C = some (.ref (ga K C))
section
variable {fa : List Fa} {fn : List DefD} {xl : List Str} {P : Program} {w : World} {K : PySem.W.Frag} {mg : Str → Option Value} {base : Heap}
theorem Told.mkAny (T : Told fa fn xl K mg) (i : Nat) {d : DefD} {f : Addr} {N ps : List Str} {k : Nat} {sp : Sp} (hd : fn[i]? = some d) (hx : fAd K d.at_ = f) (h0 : d.dfl = []) (h1 : d.kwd = []) (S : FnScope N ps d.scope)
    (bnd : ∀ (kV doc pm : Value) (an : Option Addr) (cdv ct : Value) (us : List Value), us.length = ps.length → bindArgs (PySem.W.fnOf d.name d.qual d.params d.body d.scope .none kV doc pm an cdv ct) ⟨us, []⟩ = pure (ps.zip us))
    (len : ∀ vs H Q E, sp vs H Q E → vs.length = ps.length)
    (body : ∀ (cdv : Value) (A : Around) (outer : List Env) (s : Shared) (H : Hp) (vs : List V) (Q : VK) (E : XK), Room k (A.deeper (envOfC d.qual d.scope s.heap.objs.size f cdv)) → sp vs H Q E →
      ∃ t, PSs (cxOf (L2.CX P w) P w K mg base N d.qual d.scope f cdv A outer s H E) d.body t ∧ t { nx := fun _ H' => Q .non H', rt := Q } (start N vs) H) : FnOk P w K mg base (L2.CX P w) (k + 1) f (fdAt K f) ps sp ∧ Bnd (fdAt K f) ps := by
  obtain ⟨fd, F⟩ := T.says.def_ i hd
  have e0 : d.dvs K = [] := by unfold DefD.dvs; rw [h0]; rfl
  have e1 : d.kws K = [] := by unfold DefD.kws; rw [h1]; rfl
  rw [hx, e0, e1] at F
  have ef := fdAt_of F
  subst ef
  exact ⟨F.ok S len body, F.bindsA bnd⟩
theorem Told.mkMt (T : Told fa fn xl K mg) (i j l : Nat) {d : DefD} {C m : Str} {N ps : List Str} {k : Nat} {sp : Sp} (hd : fn[i]? = some d) (hx : d.at_ = (C, some m)) (h0 : d.dfl = []) (h1 : d.kwd = []) (hg : fa[j]? = some (.meth C m)) (hc : fa[l]? = some (.cls C)) (S : FnScope N ps d.scope)
    (bnd : ∀ (kV doc pm : Value) (an : Option Addr) (cdv ct : Value) (us : List Value), us.length = ps.length → bindArgs (PySem.W.fnOf d.name d.qual d.params d.body d.scope .none kV doc pm an cdv ct) ⟨us, []⟩ = pure (ps.zip us))
    (len : ∀ vs H Q E, sp vs H Q E → vs.length = ps.length)
    (body : ∀ (cdv : Value) (A : Around) (outer : List Env) (s : Shared) (H : Hp) (vs : List V) (Q : VK) (E : XK), Room k (A.deeper (envOfC d.qual d.scope s.heap.objs.size (ma K (ga K C) m) cdv)) → sp vs H Q E →
      ∃ t, PSs (cxOf (L2.CX P w) P w K mg base N d.qual d.scope (ma K (ga K C) m) cdv A outer s H E) d.body t ∧ t { nx := fun _ H' => Q .non H', rt := Q } (start N vs) H) : Mt P w K mg base (k + 1) C m ps sp := by
  obtain ⟨a, b⟩ := T.mkAny (P := P) (w := w) (base := base) i hd (by rw [hx]; rfl) h0 h1 S bnd len body
  exact ⟨a, b, He.meth_ok (T.says.fact j hg), T.cls l hc⟩
theorem Told.mkMi (T : Told fa fn xl K mg) (i j l : Nat) {d : DefD} {C : Str} {N ps : List Str} {k : Nat} {sp : Sp} (hd : fn[i]? = some d) (hx : d.at_ = (C, some ("__init__" : Str))) (h0 : d.dfl = []) (h1 : d.kwd = []) (hg : fa[j]? = some (.mkr C)) (hc : fa[l]? = some (.glo C)) (S : FnScope N ps d.scope)
    (bnd : ∀ (kV doc pm : Value) (an : Option Addr) (cdv ct : Value) (us : List Value), us.length = ps.length → bindArgs (PySem.W.fnOf d.name d.qual d.params d.body d.scope .none kV doc pm an cdv ct) ⟨us, []⟩ = pure (ps.zip us))
    (len : ∀ vs H Q E, sp vs H Q E → vs.length = ps.length)
    (body : ∀ (cdv : Value) (A : Around) (outer : List Env) (s : Shared) (H : Hp) (vs : List V) (Q : VK) (E : XK), Room k (A.deeper (envOfC d.qual d.scope s.heap.objs.size (ma K (ga K C) "__init__") cdv)) → sp vs H Q E →
      ∃ t, PSs (cxOf (L2.CX P w) P w K mg base N d.qual d.scope (ma K (ga K C) "__init__") cdv A outer s H E) d.body t ∧ t { nx := fun _ H' => Q .non H', rt := Q } (start N vs) H) : Mi P w K mg base (k + 1) C ps sp := by
  obtain ⟨a, b⟩ := T.mkAny (P := P) (w := w) (base := base) i hd (by rw [hx]; rfl) h0 h1 S bnd len body
  exact ⟨a, b, He.mkr_ok (T.says.fact j hg), T.glo l hc⟩
end
/-- x is an instance of the class at C, its attributes none of the name m -/
def Recv (C : Addr) (m : Str) (x : V) (H : Hp) : Prop := ∃ a dx fs, x = .ref a ∧ H a = some (.ins C dx fs) ∧ fs.lookup m = none
theorem recv {C : Addr} {m : Str} {a dx : Addr} {H : Hp} {fs : List (Str × V)} (h : H a = some (.ins C dx fs)) (e : fs.lookup m = none := by rfl) : Recv C m (.ref a) H := ⟨a, dx, fs, rfl, h, e⟩
section
variable {X : Cx} {k : Nat} {C m : Str} {ps : List Str} {sp : Sp} {W : WX} {p pos apos : Pos} {o e : Expr} {es : List Expr} {ta : TE} {t : TA}
def gMeth (C : Addr) (m : Str) (sp : Sp) (W : WX) (ta : TE) (t : TA) : TE := fun σ H Q => ta σ H fun x H1 => Recv C m x H1 ∧ t σ H1 fun vs H2 => sp (x :: vs) H2 Q fun c d H3 => W c d σ H3
theorem pe_mt {pl : Sem Bool} {K : PySem.W.Frag} (hK : X.K = K) (tk : Takes X W) (he : PE X o ta) (F : Mt X.prog X.w K X.mg X.base k C m ps sp) (hr : Room k X.A) (ha : PA X (e :: es) t)
    (hst : starEach (e :: es) X.env = (false, eval e X.env) :: starEach es X.env := by rfl) (hpl : (backTo pos (starEach es X.env)).any (·.1) = false := by rfl)
    (ht : eval (.Call (.Attribute o m apos) (e :: es) [] pos) X.env = (do
      let z ← eval o X.env
      standAt apos.atName
      let (g, one) ← holding [z] (getMethod z m pl)
      callWith pos g one (backTo pos (starEach (e :: es) X.env)) (backToKw pos (keywordEach [] X.env))) := by rfl) :
    PE X (.Call (.Attribute o m apos) (e :: es) [] pos) (gMeth (ga K C) m sp W ta t) := by
  subst hK
  refine ⟨fun pins s σ H Q I h => ?_⟩
  refine PySem.W.methodCall_KW (pl := pl) (thn (he.run pins s σ H _ I h) fun u s1 hh => ?_) ht
  obtain ⟨y, H1, I1, ry, ⟨a, dx, fs, ey, ea, l⟩, q⟩ := hh
  subst ey
  obtain rfl : u = Value.ref a := ry
  refine getmeth_ok I1 ea F.cl F.me l ?_
  refine PySem.W.callWith_K (first := [.ref a]) (h₀ := X.base) I.ok.mod.kin F.me.kp (thn (ha.run pos pins s1 σ H1 _ I1 q) fun us s2 h2 => ?_) hst hpl
  obtain ⟨vs, H2, I2, r, q2⟩ := h2
  exact ⟨I2.kIn, run_fnS (us := .ref a :: us) (vs := .ref a :: vs) (E := WE W) F.ok hr F.bd.to (passAt tk σ) I2 (.cons rfl r) q2⟩
theorem pe_mt0 {pl : Sem Bool} {K : PySem.W.Frag} (hK : X.K = K) (tk : Takes X W) (he : PE X o ta) (F : Mt X.prog X.w K X.mg X.base k C m ps sp) (hr : Room k X.A)
    (ht : eval (.Call (.Attribute o m apos) [] [] pos) X.env = (do
      let z ← eval o X.env
      standAt apos.atName
      let (g, one) ← holding [z] (getMethod z m pl)
      callWith pos g one (backTo pos (starEach [] X.env)) (backToKw pos (keywordEach [] X.env))) := by rfl) :
    PE X (.Call (.Attribute o m apos) [] [] pos) (gMeth (ga K C) m sp W ta tNil) := by
  subst hK
  refine ⟨fun pins s σ H Q I h => ?_⟩
  refine PySem.W.methodCall_KW (pl := pl) (thn (he.run pins s σ H _ I h) fun u s1 hh => ?_) ht
  obtain ⟨y, H1, I1, ry, ⟨a, dx, fs, ey, ea, l⟩, q⟩ := hh
  subst ey
  obtain rfl : u = Value.ref a := ry
  refine getmeth_ok I1 ea F.cl F.me l ?_
  exact PySem.W.callWith_K0 (first := [.ref a]) I1.kIn F.me.kp (run_fnS (us := [.ref a]) (vs := [.ref a]) (E := WE W) F.ok hr F.bd.to (passAt tk σ) I1 (.cons rfl .nil) q)
theorem pe_mk {K : PySem.W.Frag} (hK : X.K = K) (tk : Takes X W) (F : Mi X.prog X.w K X.mg X.base k C ps sp) (hr : Room (k + 1) X.A) (hg : Gl X C) (ha : PA X (e :: es) t) (hdb : (C == ("__debug__" : Str)) = false := by decide)
    (he : starEach (e :: es) X.env = (false, eval e X.env) :: starEach es X.env := by rfl) (hpl : (backTo pos (starEach es X.env)).any (·.1) = false := by rfl) : PE X (.Call (.Name C p) (e :: es) [] pos) (tMakeW (ga K C) sp W t) := by
  subst hK
  exact pe_makeW tk F.mkr F.ok hr hg F.at_ F.bd.to ha hdb he hpl
theorem pe_mk0 {K : PySem.W.Frag} (hK : X.K = K) (tk : Takes X W) (F : Mi X.prog X.w K X.mg X.base k C ps sp) (hr : Room (k + 1) X.A) (hg : Gl X C) (hdb : (C == ("__debug__" : Str)) = false := by decide) : PE X (.Call (.Name C p) [] [] pos) (tMakeW (ga K C) sp W tNil) := by
  subst hK
  exact pe_makeW0 tk F.mkr F.ok hr hg F.at_ F.bd.to hdb
/-- least, greatest of two -/
def gMin : List V → Hp → VK → Prop
  | [.int i, .int j], H, Q => Q (.int (min i j)) H
  | _, _, _ => False
def gMax : List V → Hp → VK → Prop
  | [.int i, .int j], H, Q => Q (.int (max i j)) H
  | _, _, _ => False
theorem call_gMin (hc : X.calm = true) : CallR X (.builtin "min") gMin := by
  intro pins s σ H xs us Q I r h
  unfold gMin at h
  split at h
  · rename_i i j
    refine call_min2 hc pins s σ _ _ us Q I r ⟨i, j, rfl, ?_⟩
    have e : (if j < i then j else i) = min i j := by split <;> omega
    rw [e]
    exact h
  · exact h.elim
theorem call_gMax (hc : X.calm = true) : CallR X (.builtin "max") gMax := by
  intro pins s σ H xs us Q I r h
  unfold gMax at h
  split at h
  · rename_i i j
    refine call_max2 hc pins s σ _ _ us Q I r ⟨i, j, rfl, ?_⟩
    have e : (if j > i then j else i) = max i j := by split <;> omega
    rw [e]
    exact h
  · exact h.elim
end
section
variable {σ : L2.St} {H : Hp} {Q : VK} {D : Ends} {C : Addr} {f m : Str} {ta tv : TE} {as : TA} {sp : Sp} {W : WX} {a b : Int} {y x i : V} {S : TSet}
theorem x_fld : gFld C ta f σ H Q = ta σ H fun x H1 => ∃ v, FldIs C f x H1 v ∧ Q v H1 := rfl
theorem x_setF : gSetF C ta tv f D σ H = tv σ H fun y H1 => ta σ H1 fun x H2 => ∃ a dx fs, x = .ref a ∧ H2 a = some (.ins C dx fs) ∧ fs.length < 1000 ∧ D.nx σ (upd H2 a (.ins C dx (putF f y fs))) := rfl
theorem x_meth : gMeth C m sp W ta as σ H Q = ta σ H fun x H1 => Recv C m x H1 ∧ as σ H1 fun vs H2 => sp (x :: vs) H2 Q fun c d H3 => W c d σ H3 := rfl
theorem x_make : tMakeW C sp W as σ H Q = as σ H fun vs H1 => ∀ x dx, H1 x = none → H1 dx = none → dx ≠ x → sp (.ref x :: vs) (upd (upd H1 dx (.own x)) x (.ins C dx [])) (fun v H2 => v = .non ∧ Q (.ref x) H2) fun c d H3 => W c d σ H3 := rfl
theorem x_sub {to ti : TE} {N : L2.St → Hp → Prop} : gSub to ti S y σ H N = to σ H fun o H1 => ti σ H1 fun i H2 => S o i y H2 fun H3 => N σ H3 := rfl
theorem r_min : gMin [.int a, .int b] H Q = Q (.int (min a b)) H := rfl
theorem r_max : gMax [.int a, .int b] H Q = Q (.int (max a b)) H := rfl
/-- a store to a list at i -/
theorem r_setL {p : Addr} {xs : List V} {k : Int} {N : Hp → Prop} (h : H p = some (.lst xs)) (h0 : 0 ≤ k) (h1 : k < xs.length) (q : N (upd H p (.lst (xs.set k.toNat y)))) : rSetL (.ref p) (.int k) y H N :=
  ⟨p, xs, k, k.toNat, rfl, rfl, h, by unfold ixN; rw [if_pos h0, if_pos h1], q⟩
end
end G
namespace G
open PySem PySem.Spec PyProof.Rows L2
/-! ## comprehensions whose parts leave the heap as it is -/
section
variable {σ : L2.St} {vs : List Nat} {H1 : Hp} {D : Addr} {Qd : Hp → Prop} {te : TE} {tt : TT} {k : Nat} {f : Nat → V} {K : PySem.W.Frag} {a : Addr} {xs : List V}
theorem tYes_on {σ2 : L2.St} {H : Hp} {A B : Hp → Prop} (h : A H) : tYes σ2 H fun b H3 => if b = true then A H3 else B H3 := by
  show (if true = true then A H else B H)
  rw [if_pos (rfl : true = true)]
  exact h
/-- [e for x in range(..)] -/
theorem lc_mapR {lo : Int} {n : Nat} (f : Nat → V) (hw : ∀ v, wipe ((wipe σ vs).set k (some v)) vs = wipe σ vs) (hn : n ≤ sizeLine)
    (he : ∀ i, i < n → ∀ acc (Q : VK), Q (f i) (upd H1 D (.lst acc)) → te ((wipe σ vs).set k (some (.int (lo + i)))) (upd H1 D (.lst acc)) Q) (hd : Qd (upd H1 D (.lst ((List.range n).map f)))) :
    ∃ W : Nat → Nat → Hp → Prop, (∃ m, W 0 m (upd H1 D (.lst []))) ∧ ∀ i m H, W i m H →
      ((Itr lo n).stop i H ∧ Qd H) ∨ ((Itr lo n).go i H ∧ ∃ Nx : Hp → Prop, (∀ H', Nx H' → ∃ m', m' < m ∧ W (i + 1) m' H') ∧ ∀ x H', (Itr lo n).yld i H x H' → gName k x (wipe σ vs) H' fun σ2 H2 => wipe σ2 vs = wipe σ vs ∧ tYes σ2 H2 fun b H3 =>
        if b = true then te σ2 H3 fun y H4 => ∃ acc, H4 D = some (.lst acc) ∧ acc.length < sizeLine ∧ Nx (upd H4 D (.lst (acc ++ [y]))) else Nx H3) := by
  refine lc_range (Qd := Qd) (fun i H => H = upd H1 D (.lst ((List.range i).map f))) rfl ?_ fun H e => by rw [e]; exact hd
  rintro i H hi rfl
  refine ⟨hw _, tYes_on (he i hi _ _ ⟨_, upd_same, by rw [List.length_map, List.length_range]; omega, ?_⟩)⟩
  rw [upd_upd, List.range_succ, List.map_append]
  rfl
/-- [e for x in xs] -/
theorem lc_mapL {ys : List V} (hw : ∀ v, wipe ((wipe σ vs).set k (some v)) vs = wipe σ vs) (hl : ∀ acc, SqL K (upd H1 D (.lst acc)) a xs) (hn : xs.length ≤ sizeLine) (hy : ys.length = xs.length)
    (he : ∀ (i : Nat) (x y : V), xs[i]? = some x → ys[i]? = some y → ∀ acc (Q : VK), Q y (upd H1 D (.lst acc)) → te ((wipe σ vs).set k (some x)) (upd H1 D (.lst acc)) Q) (hd : Qd (upd H1 D (.lst ys))) :
    ∃ W : Nat → Nat → Hp → Prop, (∃ m, W 0 m (upd H1 D (.lst []))) ∧ ∀ i m H, W i m H →
      ((Itl K a).stop i H ∧ Qd H) ∨ ((Itl K a).go i H ∧ ∃ Nx : Hp → Prop, (∀ H', Nx H' → ∃ m', m' < m ∧ W (i + 1) m' H') ∧ ∀ x H', (Itl K a).yld i H x H' → gName k x (wipe σ vs) H' fun σ2 H2 => wipe σ2 vs = wipe σ vs ∧ tYes σ2 H2 fun b H3 =>
        if b = true then te σ2 H3 fun y H4 => ∃ acc, H4 D = some (.lst acc) ∧ acc.length < sizeLine ∧ Nx (upd H4 D (.lst (acc ++ [y]))) else Nx H3) := by
  refine lc_list (Qd := Qd) (xs := xs) (fun i H => H = upd H1 D (.lst (ys.take i))) (by rfl) (fun i H _ e => by rw [e]; exact hl _) ?_ fun H e => by
    rw [e, ← hy, List.take_length]
    exact hd
  rintro i x H hi rfl
  have hlt : i < ys.length := by rw [hy]; exact (List.getElem?_eq_some_iff.mp hi).1
  refine ⟨hw _, tYes_on (he i x ys[i] hi (List.getElem?_eq_getElem hlt) _ _ ⟨_, upd_same, by rw [List.length_take]; omega, ?_⟩)⟩
  rw [upd_upd, List.take_succ_eq_append_getElem hlt]
/-- [e for x in xs if t], ys the kept ones, by the places of what is kept -/
theorem lc_iffL {g : V → Option V} (hw : ∀ v, wipe ((wipe σ vs).set k (some v)) vs = wipe σ vs) (hl : ∀ acc, SqL K (upd H1 D (.lst acc)) a xs) (hn : xs.length ≤ sizeLine)
    (he : ∀ (i : Nat) (x : V), xs[i]? = some x → ∀ acc (N : Bool → Hp → Prop), ((g x).isSome = true → N true (upd H1 D (.lst acc))) → ((g x).isSome = false → N false (upd H1 D (.lst acc))) → tt ((wipe σ vs).set k (some x)) (upd H1 D (.lst acc)) N)
    (hy : ∀ (i : Nat) (x y : V), xs[i]? = some x → g x = some y → ∀ acc (Q : VK), Q y (upd H1 D (.lst acc)) → te ((wipe σ vs).set k (some x)) (upd H1 D (.lst acc)) Q) (hd : Qd (upd H1 D (.lst (xs.filterMap g)))) :
    ∃ W : Nat → Nat → Hp → Prop, (∃ m, W 0 m (upd H1 D (.lst []))) ∧ ∀ i m H, W i m H →
      ((Itl K a).stop i H ∧ Qd H) ∨ ((Itl K a).go i H ∧ ∃ Nx : Hp → Prop, (∀ H', Nx H' → ∃ m', m' < m ∧ W (i + 1) m' H') ∧ ∀ x H', (Itl K a).yld i H x H' → gName k x (wipe σ vs) H' fun σ2 H2 => wipe σ2 vs = wipe σ vs ∧ tt σ2 H2 fun b H3 =>
        if b = true then te σ2 H3 fun y H4 => ∃ acc, H4 D = some (.lst acc) ∧ acc.length < sizeLine ∧ Nx (upd H4 D (.lst (acc ++ [y]))) else Nx H3) := by
  refine lc_list (Qd := Qd) (xs := xs) (fun i H => H = upd H1 D (.lst ((xs.take i).filterMap g))) (by rfl) (fun i H _ e => by rw [e]; exact hl _) ?_ fun H e => by
    rw [e, List.take_length]
    exact hd
  rintro i x H hi rfl
  have hlt : i < xs.length := (List.getElem?_eq_some_iff.mp hi).1
  have ex : xs[i] = x := by rw [List.getElem?_eq_getElem hlt] at hi; exact Option.some.inj hi
  have small : ((xs.take i).filterMap g).length < sizeLine := Nat.lt_of_le_of_lt (List.length_filterMap_le _ _) (by rw [List.length_take]; omega)
  refine ⟨hw _, he i x hi _ _ (fun c => ?_) fun c => ?_⟩
  · obtain ⟨y, ey⟩ := Option.isSome_iff_exists.mp c
    rw [if_pos (rfl : true = true)]
    refine hy i x y hi ey _ _ ⟨_, upd_same, small, ?_⟩
    rw [upd_upd, List.take_succ_eq_append_getElem hlt, List.filterMap_append, ex]
    simp only [List.filterMap_cons, ey, List.filterMap_nil]
  · rw [if_neg Bool.false_ne_true, List.take_succ_eq_append_getElem hlt, List.filterMap_append, ex]
    have e0 : g x = none := by cases e : g x with
      | none => rfl
      | some y => rw [e] at c; cases c
    simp only [List.filterMap_cons, e0, List.filterMap_nil, List.append_nil]
end
/-- a statement, then the rest, by what holds between them -/
def tCut (t u : TS) : TS := fun D σ H => ∃ M : L2.St → Hp → Prop, t { D with nx := M } σ H ∧ ∀ σ' H', M σ' H' → u D σ' H'
theorem pss_cut {X : Cx} {st : Stmt} {rest : List Stmt} {t u : TS} (h1 : PS X st t) (h2 : PSs X rest u) : PSs X (st :: rest) (tCut t u) := by
  refine ⟨fun pins s σ H D I h => ?_⟩
  obtain ⟨M, a, b⟩ := h
  refine wpAny_execs_cons (thn (h1.run pins s σ H { D with nx := M } I a) fun f s1 q => ?_)
  cases f with
  | next => exact q.elim fun σ1 z => z.elim fun H1 y => h2.run pins s1 σ1 H1 D y.1 (b σ1 H1 y.2)
  | ret v => exact q
  | brk => exact q
  | cont => exact q
/-- what is wanted of a loop over J; of a comprehension -/
def ForW (J : It) (g : TG) (tb : TS) (D : Ends) (σ : L2.St) (H : Hp) : Prop := ∃ W : Nat → Nat → L2.St → Hp → Prop, (∃ m, W 0 m σ H) ∧ ∀ i m σ H, W i m σ H →
  (J.stop i H ∧ D.nx σ H) ∨ (J.go i H ∧ ∃ N : L2.St → Hp → Prop, (∀ σ' H', N σ' H' → ∃ m', m' < m ∧ W (i + 1) m' σ' H') ∧ ∀ x H', J.yld i H x H' → g x σ H' fun σ2 H2 => tb { D with nx := N, ct := N, bk := D.nx } σ2 H2)
def LcW (J : It) (g : TG) (tt : TT) (te : TE) (vs : List Nat) (σ : L2.St) (H1 : Hp) (Q : VK) : Prop := ∀ D, H1 D = none → ∃ W : Nat → Nat → Hp → Prop, (∃ m, W 0 m (upd H1 D (.lst []))) ∧ ∀ i m H, W i m H →
  (J.stop i H ∧ Q (.ref D) H) ∨ (J.go i H ∧ ∃ Nx : Hp → Prop, (∀ H', Nx H' → ∃ m', m' < m ∧ W (i + 1) m' H') ∧ ∀ x H', J.yld i H x H' → g x (wipe σ vs) H' fun σ2 H2 => wipe σ2 vs = wipe σ vs ∧ tt σ2 H2 fun b H3 =>
    if b = true then te σ2 H3 fun y H4 => ∃ acc, H4 D = some (.lst acc) ∧ acc.length < sizeLine ∧ Nx (upd H4 D (.lst (acc ++ [y]))) else Nx H3)
section
variable {σ : L2.St} {H : Hp} {Q : VK} {D : Ends} {wi : TI} {g : TG} {tb : TS} {tt : TT} {te : TE} {ta : TA} {vs : List Nat} {R : It → Hp → Prop} {K : PySem.W.Frag} {a b : Addr} {n m : Int}
theorem x_for : tFor wi g tb D σ H = wi σ H fun J H1 => ForW J g tb D σ H1 := rfl
theorem x_lc : tLc wi g tt te vs σ H Q = wi σ H fun J H1 => LcW J g tt te vs σ H1 Q := rfl
theorem x_rng1 : iRng1 ta σ H R = ta σ H fun vs H1 => ∃ j : Int, vs = [.int j] ∧ -(2 ^ 62) ≤ j ∧ j < 2 ^ 62 ∧ R (Itr 0 j.toNat) H1 := rfl
theorem x_rng2 : iRng2 ta σ H R = ta σ H fun vs H1 => ∃ i j : Int, vs = [.int i, .int j] ∧ (-(2 ^ 62) ≤ i ∧ i < 2 ^ 62 ∧ -(2 ^ 62) ≤ j ∧ j < 2 ^ 62) ∧ R (Itr i (j - i).toNat) H1 := rfl
theorem x_lst1 {tl : TE} : iList K tl σ H R = tl σ H fun x H1 => ∃ a, x = .ref a ∧ (∃ xs, SqL K H1 a xs) ∧ R (Itl K a) H1 := rfl
theorem x_one {P : Int → Prop} : (∃ j : Int, [V.int n] = [V.int j] ∧ P j) = P n := propext ⟨fun ⟨_, e, q⟩ => by cases e; exact q, fun q => ⟨n, rfl, q⟩⟩
theorem x_two {P : Int → Int → Prop} : (∃ i j : Int, [V.int n, V.int m] = [V.int i, V.int j] ∧ P i j) = P n m := propext ⟨fun ⟨_, _, e, q⟩ => by cases e; exact q, fun q => ⟨n, m, rfl, q⟩⟩
theorem x_adr {P : Addr → Prop} : (∃ b, V.ref a = V.ref b ∧ P b) = P a := propext ⟨fun ⟨_, e, q⟩ => by cases e; exact q, fun q => ⟨a, rfl, q⟩⟩
theorem x_sl {r : V → Option Int → Option Int → Hp → VK → Prop} {tl th : TO} : tSl r te tl th σ H Q = te σ H fun x H1 => tl σ H1 fun l H2 => th σ H2 fun u H3 => r x l u H3 Q := rfl
theorem x_np {QO : Option Int → Hp → Prop} : tNoPart σ H QO = QO none H := rfl
theorem x_pt {QO : Option Int → Hp → Prop} : tPart te σ H QO = te σ H fun x H1 => ∃ i, x = .int i ∧ QO (some i) H1 := rfl
theorem x_int {P : Int → Prop} : (∃ j : Int, V.int n = V.int j ∧ P j) = P n := propext ⟨fun ⟨_, e, q⟩ => by cases e; exact q, fun q => ⟨n, rfl, q⟩⟩
theorem x_bm {T : String} {r : V → List V → Hp → VK → Prop} : tBM K T r te ta σ H Q = te σ H fun x H1 => tyV K T x H1 ∧ ta σ H1 fun xs H2 => r x xs H2 Q := rfl
theorem x_bm0 {T : String} {r : V → List V → Hp → VK → Prop} : tBM0 K T r te σ H Q = te σ H fun x H1 => tyV K T x H1 ∧ r x [] H1 Q := rfl
theorem x_tupg {ts : TGs} {n : Nat} {v : V} {N : L2.St → Hp → Prop} : gTup K n ts v σ H N = ∃ a xs, v = .ref a ∧ SqT K H a xs ∧ xs.length = n ∧ ts xs σ H N := rfl
theorem x_consg {t : TG} {u : TGs} {v : V} {r : List V} {N : L2.St → Hp → Prop} : gCons t u (v :: r) σ H N = t v σ H fun σ' H' => u r σ' H' N := propext ⟨fun ⟨_, _, e, q⟩ => by cases e; exact q, fun q => ⟨v, r, rfl, q⟩⟩
theorem x_nilg {N : L2.St → Hp → Prop} : gNil [] σ H N = N σ H := propext ⟨fun z => z.2, fun z => ⟨rfl, z⟩⟩
theorem x_cut {t u : TS} : tCut t u D σ H = ∃ M : L2.St → Hp → Prop, t { D with nx := M } σ H ∧ ∀ σ' H', M σ' H' → u D σ' H' := rfl
theorem x_dget2 {td ty tx : TE} : tDGet2 td ty tx σ H Q = td σ H fun x H1 => ∃ a, x = .ref a ∧ IsD H1 a ∧ ty σ H1 fun y H2 => tx σ H2 fun z H3 => ∃ o, DGet H3 a y o ∧ Q (o.getD z) H3 := rfl
theorem x_dget1 {td ty : TE} : tDGet1 td ty σ H Q = td σ H fun x H1 => ∃ a, x = .ref a ∧ IsD H1 a ∧ ty σ H1 fun y H2 => ∃ o, DGet H2 a y o ∧ Q (o.getD .non) H2 := rfl
theorem x_dget {td ty : TE} : tDGet td ty σ H Q = td σ H fun x H1 => ty σ H1 fun y H2 => ∃ a v, x = .ref a ∧ DGet H2 a y (some v) ∧ Q v H2 := rfl
theorem x_din {td ty : TE} : tDIn ty td σ H Q = ty σ H fun y H1 => td σ H1 fun x H2 => ∃ a o, x = .ref a ∧ DGet H2 a y o ∧ Q (.bl o.isSome) H2 := rfl
theorem x_dni {td ty : TE} : tDNotIn ty td σ H Q = ty σ H fun y H1 => td σ H1 fun x H2 => ∃ a o, x = .ref a ∧ DGet H2 a y o ∧ Q (.bl (!o.isSome)) H2 := rfl
theorem x_dput {td ty tv : TE} : sDPut td ty tv D σ H = tv σ H fun v H1 => td σ H1 fun x H2 => ty σ H2 fun y H3 => ∃ a H4, x = .ref a ∧ DPut H3 a y v H4 ∧ D.nx σ H4 := rfl
theorem isD_k {kvs : List (Key × V)} (h : H a = some (.dK kvs)) : IsD H a := .inl ⟨kvs, .inl h⟩
theorem dget_i {kvs : List (Key × V)} {i : Int} (h : H a = some (.dK kvs)) : DGet H a (.int i) (valV kvs (.inl i : Key)) := DGet.k (k := .inl i) h
theorem dput_i {kvs : List (Key × V)} {i : Int} {v : V} (h : H a = some (.dK kvs)) (hl : kvs.length < sizeLine) : DPut H a (.int i) v (upd H a (.dK (putK kvs (.inl i : Key) v))) := DPut.k (k := .inl i) h hl
theorem forW_range {lo : Int} {n : Nat} (Pv : Nat → L2.St → Hp → Prop) (h0 : Pv 0 σ H) (hs : ∀ i σ H, i < n → Pv i σ H → g (.int (lo + i)) σ H fun σ2 H2 => tb { D with nx := Pv (i + 1), ct := Pv (i + 1), bk := D.nx } σ2 H2) (hd : ∀ σ H, Pv n σ H → D.nx σ H) : ForW (Itr lo n) g tb D σ H := for_range Pv h0 hs hd
theorem forW_list {xs : List V} (Pv : Nat → L2.St → Hp → Prop) (h0 : Pv 0 σ H) (hl : ∀ i σ H, i ≤ xs.length → Pv i σ H → SqL K H a xs) (hs : ∀ i x σ H, xs[i]? = some x → Pv i σ H → g x σ H fun σ2 H2 => tb { D with nx := Pv (i + 1), ct := Pv (i + 1), bk := D.nx } σ2 H2)
    (hd : ∀ σ H, Pv xs.length σ H → D.nx σ H) : ForW (Itl K a) g tb D σ H := for_list (xs := xs) Pv h0 hl hs hd
end
theorem x_yes {σ : L2.St} {H : Hp} {Q : Bool → Hp → Prop} : tYes σ H Q = Q true H := rfl
end G
namespace G
open PySem PySem.Spec PySem.Calls PyProof.Rows L2
/-! ### more shapes of loops, of targets -/
section
variable {σ : L2.St} {H : Hp} {Q : VK} {D : Ends} {g : TG} {tb : TS} {tl : TE} {ta : TA} {R : It → Hp → Prop} {K : PySem.W.Frag} {a : Addr}
theorem x_itup : iTup K tl σ H R = tl σ H fun x H1 => ∃ a, x = .ref a ∧ (∃ xs, SqT K H1 a xs) ∧ R (Itt K a) H1 := rfl
theorem x_rng3 : iRng3 ta σ H R = ta σ H fun vs H1 => ∃ (i j c : Int) (n : Nat), vs = [.int i, .int j, .int c] ∧ RgC i j c n ∧ R (Itc i c n) H1 := rfl
theorem x_three {x y z : Int} {P : Int → Int → Int → Nat → Prop} : (∃ (i j c : Int) (n : Nat), [V.int x, V.int y, V.int z] = [.int i, .int j, .int c] ∧ P i j c n) = ∃ n, P x y z n :=
  propext ⟨fun ⟨_, _, _, n, e, q⟩ => by cases e; exact ⟨n, q⟩, fun ⟨n, q⟩ => ⟨x, y, z, n, rfl, q⟩⟩
theorem x_lstg {ts : TGs} {n : Nat} {v : V} {N : L2.St → Hp → Prop} : gLst K n ts v σ H N = ∃ a xs, v = .ref a ∧ SqL K H a xs ∧ xs.length = n ∧ ts xs σ H N := rfl
theorem x_adrS {β : Type} {P : Addr → β → Prop} : (∃ b xs, V.ref a = V.ref b ∧ P b xs) = ∃ xs, P a xs := propext ⟨fun ⟨_, xs, e, q⟩ => by cases e; exact ⟨xs, q⟩, fun ⟨xs, q⟩ => ⟨a, xs, rfl, q⟩⟩
theorem forW_tup {xs : List V} (Pv : Nat → L2.St → Hp → Prop) (h0 : Pv 0 σ H) (hl : ∀ i σ H, i ≤ xs.length → Pv i σ H → SqT K H a xs) (hs : ∀ i x σ H, xs[i]? = some x → Pv i σ H → g x σ H fun σ2 H2 => tb { D with nx := Pv (i + 1), ct := Pv (i + 1), bk := D.nx } σ2 H2)
    (hd : ∀ σ H, Pv xs.length σ H → D.nx σ H) : ForW (Itt K a) g tb D σ H := for_tup (xs := xs) Pv h0 hl hs hd
theorem forW_step {lo c : Int} {n : Nat} (Pv : Nat → L2.St → Hp → Prop) (h0 : Pv 0 σ H) (hs : ∀ i σ H, i < n → Pv i σ H → g (.int (lo + (i : Nat) * c)) σ H fun σ2 H2 => tb { D with nx := Pv (i + 1), ct := Pv (i + 1), bk := D.nx } σ2 H2)
    (hd : ∀ σ H, Pv n σ H → D.nx σ H) : ForW (Itc lo c n) g tb D σ H := for_rangeC Pv h0 hs hd
end
end G
namespace G
open PySem PySem.Spec PySem.Calls PyProof.Rows L2 He
/-! ### is True, in, sorted, all -/
section
variable {X : Cx} {K : PySem.W.Frag}
def gIsB : R2 := fun x y H Q => ∃ b, y = .bl b ∧ Q (.bl (decide (x = .bl b))) H
def gNotB : R2 := fun x y H Q => ∃ b, y = .bl b ∧ Q (.bl (!decide (x = .bl b))) H
theorem relV_bl {x : V} {b : Bool} (r : RelV x (.bool b)) : x = .bl b := by
  cases x with
  | bl c => cases r; rfl
  | int i => obtain ⟨t, e⟩ := r; cases e
  | str i => obtain ⟨t, e⟩ := r; cases e
  | byt i => obtain ⟨t, e⟩ := r; cases e
  | flt i => obtain ⟨t, e⟩ := r; cases e
  | non => cases r
  | ref a => cases r
  | ty n => cases r
theorem relV_plain {x : V} {v : Value} {b : Bool} (r : RelV x v) : plainIs v (.bool b) = true := by
  cases x with
  | bl c => cases r; rfl
  | int i => obtain ⟨t, e⟩ := r; subst e; rfl
  | str i => obtain ⟨t, e⟩ := r; subst e; rfl
  | byt i => obtain ⟨t, e⟩ := r; subst e; rfl
  | flt i => obtain ⟨t, e⟩ := r; subst e; rfl
  | non => cases r; rfl
  | ref a => cases r; rfl
  | ty n => cases r; rfl
theorem op_gIsB : OpR X (compareOp .Is) gIsB := by
  intro pins s σ H x y v u Q I rx ry h
  obtain ⟨b, rfl, q⟩ := h
  cases (show u = Value.bool b from ry)
  by_cases e : v = .bool b
  · subst e
    have ex := relV_bl rx
    exact wpAny_is_self rfl ⟨.bl true, H, I, rfl, by rw [decide_eq_true ex] at q; exact q⟩
  · have ex : ¬ x = .bl b := fun z => e (by subst z; exact rx)
    exact wpAny_is_other (relV_plain rx) e ⟨.bl false, H, I, rfl, by rw [decide_eq_false ex] at q; exact q⟩
theorem op_gNotB : OpR X (compareOp .IsNot) gNotB := by
  intro pins s σ H x y v u Q I rx ry h
  obtain ⟨b, rfl, q⟩ := h
  cases (show u = Value.bool b from ry)
  by_cases e : v = .bool b
  · subst e
    have ex := relV_bl rx
    exact wpAny_isNot_self rfl ⟨.bl false, H, I, rfl, by rw [decide_eq_true ex] at q; exact q⟩
  · have ex : ¬ x = .bl b := fun z => e (by subst z; exact rx)
    exact wpAny_isNot_other (relV_plain rx) e ⟨.bl true, H, I, rfl, by rw [decide_eq_false ex] at q; exact q⟩
theorem op_inK (hK : X.K = K) : OpR X (compareOp .In) (rIn K false) := hK ▸ op_in_seq
theorem op_ninK (hK : X.K = K) : OpR X (compareOp .NotIn) (rIn K true) := hK ▸ op_notIn_seq
theorem call_sortedK (hK : X.K = K) : CallR X (.builtin "sorted") (rSortedI K) := hK ▸ cr_sortedI
theorem call_allK (hK : X.K = K) (hc : X.calm = true) : CallR X (.builtin "all") (rAll K) := hK ▸ cr_all hc
theorem call_anyK (hK : X.K = K) (hc : X.calm = true) : CallR X (.builtin "any") (rAny K) := hK ▸ cr_any hc
end
section
variable {σ : L2.St} {H : Hp} {Q : VK} {x : V} {b : Bool}
theorem r_isB : gIsB x (.bl b) H Q = Q (.bl (decide (x = .bl b))) H := propext ⟨fun ⟨_, e, q⟩ => by cases e; exact q, fun q => ⟨b, rfl, q⟩⟩
theorem r_notB : gNotB x (.bl b) H Q = Q (.bl (!decide (x = .bl b))) H := propext ⟨fun ⟨_, e, q⟩ => by cases e; exact q, fun q => ⟨b, rfl, q⟩⟩
theorem x_dpop2 {td ty tx : TE} : tDPop2 td ty tx σ H Q = td σ H fun x H1 => ∃ a, x = .ref a ∧ IsD H1 a ∧ ty σ H1 fun y H2 => tx σ H2 fun z H3 => ∃ kvs k, H3 a = some (.dK kvs) ∧ y = kV k ∧
  (∀ v, valV kvs k = some v → Q v (upd H3 a (.dK (dropK kvs k)))) ∧ (valV kvs k = none → Q z H3) := rfl
theorem r_isi {v : V} {T t : String} (e : tyOf v H = some t) (q : Q (.bl (isB t T)) H) (hT : T ∈ (["int", "bool", "str", "list", "tuple", "dict"] : List String) := by decide) : gIsi [v, .ty T] H Q := ⟨hT, t, e, q⟩
theorem r_isiL {a : Addr} {xs : List V} (h : H a = some (.lst xs)) (q : Q (.bl true) H) : gIsi [.ref a, .ty "list"] H Q := r_isi (t := "list") (by show tyO (H a) = _; rw [h]; rfl) q
theorem r_isiT {a : Addr} {xs : List V} (h : H a = some (.tup xs)) (q : Q (.bl true) H) : gIsi [.ref a, .ty "tuple"] H Q := r_isi (t := "tuple") (by show tyO (H a) = _; rw [h]; rfl) q
theorem r_isiII {n : Int} : gIsi [.int n, .ty "int"] H Q = Q (.bl true) H := propext ⟨fun ⟨_, t, e, q⟩ => by cases e; exact q, fun q => ⟨by decide, _, rfl, q⟩⟩
theorem r_isiBB : gIsi [.bl b, .ty "bool"] H Q = Q (.bl true) H := propext ⟨fun ⟨_, t, e, q⟩ => by cases e; exact q, fun q => ⟨by decide, _, rfl, q⟩⟩
theorem r_isiIB {n : Int} : gIsi [.int n, .ty "bool"] H Q = Q (.bl false) H := propext ⟨fun ⟨_, t, e, q⟩ => by cases e; exact q, fun q => ⟨by decide, _, rfl, q⟩⟩
theorem r_isiSS {z : Str} : gIsi [.str z, .ty "str"] H Q = Q (.bl true) H := propext ⟨fun ⟨_, t, e, q⟩ => by cases e; exact q, fun q => ⟨by decide, _, rfl, q⟩⟩
theorem r_neNS {K : PySem.W.Frag} {z : Str} : gNe K .non (.str z) H Q = Q (.bl true) H := rfl
theorem r_neSN {K : PySem.W.Frag} {z : Str} : gNe K (.str z) .non H Q = Q (.bl true) H := rfl
theorem r_neNN {K : PySem.W.Frag} : gNe K .non .non H Q = Q (.bl false) H := rfl
theorem r_eqNS {K : PySem.W.Frag} {z : Str} : gEq K .non (.str z) H Q = Q (.bl false) H := rfl
theorem r_eqSN {K : PySem.W.Frag} {z : Str} : gEq K (.str z) .non H Q = Q (.bl false) H := rfl
theorem r_eqNN {K : PySem.W.Frag} : gEq K .non .non H Q = Q (.bl true) H := rfl
theorem r_eqIS {K : PySem.W.Frag} {n : Int} {z : Str} : gEq K (.int n) (.str z) H Q = Q (.bl false) H := rfl
theorem r_neIS {K : PySem.W.Frag} {n : Int} {z : Str} : gNe K (.int n) (.str z) H Q = Q (.bl true) H := rfl
theorem r_neSI {K : PySem.W.Frag} {n : Int} {z : Str} : gNe K (.str z) (.int n) H Q = Q (.bl true) H := rfl
theorem r_neBS {K : PySem.W.Frag} {z : Str} : gNe K (.bl b) (.str z) H Q = Q (.bl true) H := rfl
theorem r_eqBB {K : PySem.W.Frag} {c : Bool} : gEq K (.bl b) (.bl c) H Q = Q (.bl (b == c)) H := rfl
theorem r_neBB {K : PySem.W.Frag} {c : Bool} : gNe K (.bl b) (.bl c) H Q = Q (.bl (!(b == c))) H := rfl
theorem r_ixL {K : PySem.W.Frag} {a : Addr} {xs : List V} {i : Nat} {v : V} (h : H a = some (.lst xs)) (e : xs[i]? = some v) (q : Q v H) : rIx K (.ref a) (.int (i : Int)) H Q := .inl ⟨_, _, _, _, rfl, rfl, .of h, by
  have hl := (List.getElem?_eq_some_iff.mp e).1
  unfold atI ixN
  rw [if_pos (by omega), if_pos (by omega), Int.toNat_natCast]
  exact e, q⟩
end
/-! ### isinstance(e, (C, D, ..)) of a caught error -/
def tIsQ (K : PySem.W.Frag) (x : V) (cs : List V) (H : Hp) (Q : VK) : Prop := cs.length ≤ sizeLine ∧ ∃ a D us b, x = .ref a ∧ H a = some (ExA (.ref D) a) ∧ ExcC K D ∧ Paired ClsV cs us ∧ PySem.W.kitAny K (.ref D) us = some b ∧ Q (.bl b) H
theorem x_isT {K : PySem.W.Frag} {σ : L2.St} {H : Hp} {Q : VK} {ta : TE} {tc : TA} : tIsT K ta tc σ H Q = ta σ H fun x H1 => tc σ H1 fun cs H2 => tIsQ K x cs H2 Q := rfl
inductive NamesK (K : PySem.W.Frag) : List V → List Str → Prop where
  | nil : NamesK K [] []
  | cons (c : Str) {cs : List V} {ns : List Str} (t : NamesK K cs ns) : NamesK K (.ref (ga K c) :: cs) (c :: ns)
theorem NamesK.len {K : PySem.W.Frag} {cs : List V} {ns : List Str} (h : NamesK K cs ns) : cs.length = ns.length := by
  induction h with
  | nil => rfl
  | cons c t ih => exact congrArg (· + 1) ih
theorem NamesK.pair {K : PySem.W.Frag} {cs : List V} {ns : List Str} (h : NamesK K cs ns) : Paired ClsV cs (ns.map fun c => Value.ref (ga K c)) := by
  induction h with
  | nil => exact .nil
  | cons c t ih => exact .cons (.own _) ih
theorem Told.anyOf {fa : List Fa} {fn : List DefD} {xl : List Str} {K : PySem.W.Frag} {mg : Str → Option Value} (T : Told fa fn xl K mg) {d : Str} (hd : d ∈ xl) : ∀ ns : List Str, (∀ c ∈ ns, c ∈ xl) → PySem.W.kitAny K (.ref (ga K d)) (ns.map fun c => Value.ref (ga K c)) = some (ns.any (under d))
  | [], _ => rfl
  | c :: r, h => by
    show (match PySem.W.kitOne K (.ref (ga K d)) (.ref (ga K c)) with
      | some true => some true
      | some false => PySem.W.kitAny K (.ref (ga K d)) (r.map fun c => Value.ref (ga K c))
      | none => none) = some (under d c || r.any (under d))
    rw [((T.err hd).2.2 c (h c (List.mem_cons_self))).1]
    cases under d c with
    | true => rfl
    | false => exact T.anyOf hd r fun c hc => h c (List.mem_cons_of_mem _ hc)
theorem Told.isA {fa : List Fa} {fn : List DefD} {xl : List Str} {K : PySem.W.Frag} {mg : Str → Option Value} (T : Told fa fn xl K mg) {d : Str} {a : Addr} {H : Hp} {Q : VK} {cs : List V} {ns : List Str} {b : Bool} (ha : H a = some (ExA (.ref (ga K d)) a)) (n : NamesK K cs ns)
    (hd : d ∈ xl) (hc : (ns.all fun c => decide (c ∈ xl)) = true) (hl : ns.length ≤ 1000) (e : ns.any (under d) = b) (q : Q (.bl b) H) : tIsQ K (.ref a) cs H Q :=
  ⟨by rw [n.len, sizeLine_eq]; omega, a, _, _, b, rfl, ha, (T.err hd).1, n.pair, (T.anyOf hd ns fun c h => of_decide_eq_true (List.all_eq_true.mp hc c h)).trans (congrArg some e), q⟩
end G
namespace G
open PySem PySem.Spec PySem.Calls PyProof.Rows L2 He
/-! ### == of data of some depth -/
def ShK (k : Nat) (d : PyData) : Prop := d.canLay0 = true ∧ d.depth ≤ k
theorem ShK.up {k n : Nat} {d : PyData} (h : ShK k d) (e : k ≤ n) : ShK n d := ⟨h.1, Nat.le_trans h.2 e⟩
theorem ShK.all {k : Nat} : ∀ {ds : List PyData}, (∀ z ∈ ds, ShK k z) → PyData.canLayAll0 ds = true ∧ PyData.depthAll ds ≤ k
  | [], _ => ⟨by simp [PyData.canLayAll0], by simp [PyData.depthAll]⟩
  | z :: zs, h => by
    have h1 := ShK.all (ds := zs) fun y hy => h y (List.mem_cons_of_mem _ hy)
    have h2 := h z (List.mem_cons_self)
    refine ⟨by simp [PyData.canLayAll0, h2.1, h1.1], ?_⟩
    have a := h2.2
    have b := h1.2
    simp only [PyData.depthAll]
    omega
theorem ShK.lst {k : Nat} {ds : List PyData} (h : ∀ z ∈ ds, ShK k z) : ShK (k + 1) (.list ds) := by
  have a := ShK.all h
  refine ⟨by simp [PyData.canLay0, a.1], ?_⟩
  have b := a.2
  simp only [PyData.depth]
  omega
theorem ShK.tup {k : Nat} {ds : List PyData} (h : ∀ z ∈ ds, ShK k z) : ShK (k + 1) (.tuple ds) := by
  have a := ShK.all h
  refine ⟨by simp [PyData.canLay0, a.1], ?_⟩
  have b := a.2
  simp only [PyData.depth]
  omega
theorem ShK.ok {k : Nat} {d : PyData} (h : ShK k d) (e : k ≤ 64) : SeqAt.shaped d = true := by
  show (d.canLay0 && decide (d.depth ≤ 64)) = true
  rw [h.1, decide_eq_true (Nat.le_trans h.2 e)]
  rfl
/-- flat things as data -/
def toD : V → PyData
  | .bl b => .bool b
  | .int i => .int i
  | _ => .none
def flatI : V → Bool
  | .non => true
  | .bl _ => true
  | .int _ => true
  | _ => false
theorem toD_sh {v : V} : ShK 0 (toD v) := by cases v <;> exact ⟨by simp [toD, PyData.canLay0], by simp [toD, PyData.depth]⟩
theorem toD_dp {K : PySem.W.Frag} {H : Hp} {v : V} (h : flatI v = true) : Dp K H v (toD v) := by
  cases v <;> first | (cases h; done) | skip
  · exact .non
  · exact .bl _
  · exact .int _
theorem toDs_dp {K : PySem.W.Frag} {H : Hp} : ∀ {xs : List V}, (∀ x ∈ xs, flatI x = true) → DpAll K H xs (xs.map toD)
  | [], _ => .nil
  | _ :: _, h => .cons (toD_dp (h _ (List.mem_cons_self))) (toDs_dp fun y hy => h y (List.mem_cons_of_mem _ hy))
theorem toDs_sh {xs : List V} : ∀ z ∈ xs.map toD, ShK 0 z := fun z h => by
  obtain ⟨v, -, e⟩ := List.mem_map.mp h
  subst e
  exact toD_sh
/-- lists of flat things; of tuples of flat things -/
theorem dp_flat {K : PySem.W.Frag} {H : Hp} {a : Addr} {xs : List V} (h : H a = some (.lst xs)) (f : ∀ x ∈ xs, flatI x = true) : Dp K H (.ref a) (.list (xs.map toD)) := .lst (.of h) (toDs_dp f)
theorem sh_flat {xs : List V} : SeqAt.shaped (.list (xs.map toD)) = true := (ShK.lst toDs_sh).ok (by decide)
inductive TupAll (H : Hp) : List V → List (List V) → Prop where
  | nil : TupAll H [] []
  | cons {tp : Addr} {xs : List V} {rs : List V} {yss : List (List V)} (h : H tp = some (.tup xs)) (f : ∀ x ∈ xs, flatI x = true) (t : TupAll H rs yss) : TupAll H (.ref tp :: rs) (xs :: yss)
def tupD (yss : List (List V)) : PyData := .list (yss.map fun xs => .tuple (xs.map toD))
theorem TupAll.dp {K : PySem.W.Frag} {H : Hp} : ∀ {rs : List V} {yss : List (List V)}, TupAll H rs yss → DpAll K H rs (yss.map fun xs => .tuple (xs.map toD))
  | _, _, .nil => .nil
  | _, _, .cons h f t => .cons (.tup (.inl (.inl h)) (toDs_dp f)) t.dp
theorem TupAll.same {H H' : Hp} {rs : List V} {yss : List (List V)} (h : TupAll H rs yss) (s : Same H H') : TupAll H' rs yss := by
  induction h with
  | nil => exact .nil
  | cons h f t ih => exact .cons (s _ _ h) f ih
theorem TupAll.snoc {H : Hp} {rs : List V} {yss : List (List V)} {tp : Addr} {xs : List V} (h : TupAll H rs yss) (e : H tp = some (.tup xs)) (f : ∀ x ∈ xs, flatI x = true) : TupAll H (rs ++ [.ref tp]) (yss ++ [xs]) := by
  induction h with
  | nil => exact .cons e f .nil
  | cons h f' t ih => exact .cons h f' ih
theorem TupAll.put {H : Hp} {rs : List V} {yss : List (List V)} {D : Addr} {o o' : HO} (h : TupAll H rs yss) (e : H D = some o) (n : ∀ xs, o ≠ .tup xs) : TupAll (upd H D o') rs yss := by
  induction h with
  | nil => exact .nil
  | cons h f t ih => exact .cons (by rw [upd_ne (ne_of h e fun z => n _ z.symm)]; exact h) f ih
theorem TupAll.len {H : Hp} {rs : List V} {yss : List (List V)} (h : TupAll H rs yss) : rs.length = yss.length := by
  induction h with
  | nil => rfl
  | cons h f t ih => exact congrArg (· + 1) ih
theorem TupAll.mem {H : Hp} {rs : List V} {yss : List (List V)} (h : TupAll H rs yss) : ∀ r ∈ rs, ∃ tp xs, r = .ref tp ∧ H tp = some (.tup xs) ∧ xs ∈ yss := by
  induction h with
  | nil => exact fun r h => (List.not_mem_nil h).elim
  | cons h f t ih =>
    intro r hr
    rcases List.mem_cons.mp hr with rfl | hr
    · exact ⟨_, _, rfl, h, List.mem_cons_self⟩
    · obtain ⟨tp, xs, e, h', m⟩ := ih r hr
      exact ⟨tp, xs, e, h', List.mem_cons_of_mem _ m⟩
theorem dp_tups {K : PySem.W.Frag} {H : Hp} {a : Addr} {rs : List V} {yss : List (List V)} (h : H a = some (.lst rs)) (t : TupAll H rs yss) : Dp K H (.ref a) (tupD yss) := .lst (.of h) t.dp
theorem sh_tups {yss : List (List V)} : SeqAt.shaped (tupD yss) = true := by
  refine (ShK.lst (k := 1) fun z h => ?_).ok (by decide)
  obtain ⟨xs, -, e⟩ := List.mem_map.mp h
  subst e
  exact ShK.tup toDs_sh
theorem shaped_refl {d : PyData} (s : SeqAt.shaped d = true) : PyData.eqv d d = true := PySem.SeqAt.eqv_refl d (SeqAt.canLay_of_shaped s)
theorem r_eqSame {K : PySem.W.Frag} {H : Hp} {Q : VK} {a b : Addr} {d : PyData} (h1 : Dp K H (.ref a) d) (h2 : Dp K H (.ref b) d) (s : SeqAt.shaped d = true) (q : Q (.bl true) H) : gEq K (.ref a) (.ref b) H Q := ⟨d, d, h1, h2, s, s, by rw [shaped_refl s]; exact q⟩
theorem r_neSame {K : PySem.W.Frag} {H : Hp} {Q : VK} {a b : Addr} {d : PyData} (h1 : Dp K H (.ref a) d) (h2 : Dp K H (.ref b) d) (s : SeqAt.shaped d = true) (q : Q (.bl false) H) : gNe K (.ref a) (.ref b) H Q := ⟨d, d, h1, h2, s, s, by rw [shaped_refl s]; exact q⟩
theorem getD_range {ts : List V} {d : V} : (List.range ts.length).map (fun i => ts.getD i d) = ts := by
  refine List.ext_getElem (by rw [List.length_map, List.length_range]) fun i h1 h2 => ?_
  rw [List.getElem_map, List.getElem_range, List.getD_eq_getElem?_getD, List.getElem?_eq_getElem h2]
  rfl
theorem getD_at {α : Type} {ts : List α} {d : α} {i : Nat} (h : i < ts.length) : ts[i]? = some (ts.getD i d) := by
  rw [List.getElem?_eq_getElem h, List.getD_eq_getElem?_getD, List.getElem?_eq_getElem h]
  rfl
theorem r_ixT {K : PySem.W.Frag} {H : Hp} {Q : VK} {a : Addr} {xs : List V} {i : Nat} {v : V} (h : H a = some (.tup xs)) (e : xs[i]? = some v) (q : Q v H) : rIx K (.ref a) (.int (i : Int)) H Q := .inr (.inl ⟨_, _, _, _, rfl, rfl, .inl (.inl h), by
  have hl := (List.getElem?_eq_some_iff.mp e).1
  unfold atI ixN
  rw [if_pos (by omega), if_pos (by omega), Int.toNat_natCast]
  exact e, q⟩)
theorem op_catTK {X : Cx} {K : PySem.W.Frag} (hK : X.K = K) : OpR X (binaryOp .Add) (rCatT K) := hK ▸ op_catT
theorem r_cat {K : PySem.W.Frag} {H : Hp} {Q : VK} {a b : Addr} {xs ys : List V} (h1 : H a = some (.tup xs)) (h2 : H b = some (.tup ys)) (nx : xs ≠ []) (ny : ys ≠ []) (hl : xs.length + ys.length ≤ sizeLine) (q : ∀ p, H p = none → Q (.ref p) (upd H p (.tup (xs ++ ys)))) : rCatT K (.ref a) (.ref b) H Q :=
  ⟨a, b, xs, ys, rfl, rfl, .inl (.inl h1), .inl (.inl h2), nx, hl, fun e => absurd e ny, fun _ => q⟩
/-- addresses that are in use -/
def Live (H : Hp) (L : List Addr) : Prop := L.Nodup ∧ ∀ c ∈ L, ∃ o, H c = some o
theorem Live.nil {H : Hp} : Live H [] := ⟨List.nodup_nil, fun c h => (List.not_mem_nil h).elim⟩
theorem Live.same {H H' : Hp} {L : List Addr} (h : Live H L) (s : Same H H') : Live H' L := ⟨h.1, fun c m => let ⟨o, e⟩ := h.2 c m; ⟨o, s _ _ e⟩⟩
theorem Live.cons {H H' : Hp} {L : List Addr} {x : Addr} {o : HO} (h : Live H L) (s : Same H H') (e : H x = none) (e' : H' x = some o) : Live H' (x :: L) := by
  refine ⟨List.nodup_cons.mpr ⟨fun m => ?_, h.1⟩, fun c m => ?_⟩
  · obtain ⟨o, g⟩ := h.2 x m
    rw [e] at g
    cases g
  · rcases List.mem_cons.mp m with rfl | m
    · exact ⟨_, e'⟩
    · obtain ⟨o, g⟩ := h.2 c m
      exact ⟨o, s _ _ g⟩
/-! ### enumerate -/
theorem x_enum {σ : L2.St} {H : Hp} {ta : TA} {R : It → Hp → Prop} {K : PySem.W.Frag} : iEnum K ta σ H R = ta σ H fun vs H1 => ∃ a xs, vs = [.ref a] ∧ SqL K H1 a xs ∧ R (Ite K a) H1 := rfl
end G
namespace Pr
open PySem PySem.Spec PyProof.Rows L2 G
local macro_rules | `(tactic| walk_at "x") => `(tactic| try simp only [↓x_var0, ↓x_varS, ↓x_c, ↓x_op, ↓x_un, ↓x_cb, ↓x_nil, ↓x_cons, ↓x_test, ↓x_b, ↓x_ex, ↓x_and, ↓x_or, ↓x_not, ↓x_andV, ↓x_orV, ↓x_notV, ↓x_tif, ↓x_chain, ↓x_menu, ↓x_menuI, ↓x_lst, ↓x_tup, ↓x_dnew, ↓x_callW, ↓x_callN, ↓x_seq, ↓x_next, ↓x_ret, ↓x_retN, ↓x_drop, ↓x_ifS, ↓x_asg, ↓x_name, ↓x_raise, ↓x_fld, ↓x_setF, ↓x_meth, ↓x_make, ↓x_sub, ↓r_min, ↓r_max, ↓x_yes, ↓x_for, ↓x_cut, ↓x_lc, ↓x_rng1, ↓x_rng2, ↓x_lst1, ↓x_itup, ↓x_rng3, ↓x_three, ↓x_lstg, ↓x_tupg, ↓x_adrS, ↓x_one, ↓x_two, ↓x_adr, ↓x_sl, ↓x_np, ↓x_pt, ↓x_int, ↓x_bm, ↓x_bm0, ↓x_consg, ↓x_nilg, ↓x_dget2, ↓x_dget1, ↓x_dget, ↓x_din, ↓x_dni, ↓x_dput, ↓x_dpop2, ↓r_isB, ↓r_notB, ↓x_enum, wipe, List.map_cons, List.map_nil, ↓x_isT, ↓r_isiII, ↓r_isiBB, ↓r_isiIB, ↓r_isiSS, ↓r_neNS, ↓r_neSN, ↓r_neNN, ↓r_eqNS, ↓r_eqSN, ↓r_eqNN, ↓r_eqIS, ↓r_neIS, ↓r_neSI, ↓r_neBS, ↓r_eqBB, ↓r_neBB, ↓x_start, ↓x_K, ↓x_start0, ↓r_i0, ↓r_i, ↓r_u, ↓r_addI, ↓r_addS, ↓r_mulI, ↓r_mulS, ↓r_eqI, ↓r_neI, ↓r_eqS, ↓r_neS, ↓r_absI, ↓r_intI, ↓r_intB, List.length_cons, List.length_nil, List.replicate, List.set_cons_zero, List.set_cons_succ, decide_eq_true_eq, Bool.not_eq_true', decide_eq_false_iff_not, if_true, if_false, Bool.false_eq_true, Bool.true_eq_false, ite_true, ite_false, Bool.not_true, Bool.not_false, c_div, n_ten, c_pow, not_true_eq_false, not_false_eq_true, decide_true, decide_false, true_and, and_true, and_self, true_or, or_true, Int.reduceLT, Int.reduceLE, Int.reduceMul, Int.reduceAdd, Int.reduceSub, Int.reducePow, Int.reduceNeg, Int.reduceDiv, Int.reduceMod, Nat.reducePow, Int.reduceToNat, Int.reduceEq, Int.reduceNe, Nat.reduceLT, Nat.reduceLeDiff, Nat.reduceAdd])

/-! ## the text by places -/
def top (i : Nat) : Stmt := PySem.Challenge.pw_cellkeep_k10_last_words_said.main.body.getD i (.Pass ⟨0, 0, 0, 0⟩)
abbrev s_is_whole : Stmt := top 18
abbrev s_number_word : Stmt := top 19
abbrev s_place_word : Stmt := top 20
abbrev s_Lasts___init__ : Stmt := inClass (top 22) 0
abbrev s_Lasts_give : Stmt := inClass (top 22) 1
abbrev s_Lasts_need : Stmt := inClass (top 22) 2
abbrev s_Lasts_move : Stmt := inClass (top 22) 3
abbrev s_Lasts_say : Stmt := inClass (top 22) 4
abbrev s_Lasts_pending : Stmt := inClass (top 22) 5
abbrev s_Lasts_said : Stmt := inClass (top 22) 6
abbrev s__law_draw : Stmt := top 24
abbrev s__law_alone : Stmt := top 25
abbrev s__law_done : Stmt := top 26
abbrev s__law_is_number : Stmt := top 27
abbrev s__law_due : Stmt := top 28
abbrev s__law_right : Stmt := top 29
abbrev s__law_place : Stmt := top 30
abbrev s__law_number : Stmt := top 31
abbrev s_law : Stmt := top 32
def F_Lasts (v0 v1 : V) : List (Str × V) := [("waiting", v0), ("spoken", v1)]
theorem pi_Lasts_waiting {x  : V} : putF "waiting" x ([] : List (Str × V)) = ([("waiting", x)] : List (Str × V)) := rfl
theorem pf_Lasts_waiting {x v0 v1 : V} : putF "waiting" x (F_Lasts v0 v1) = F_Lasts x v1 := rfl
theorem pi_Lasts_spoken {x v0 : V} : putF "spoken" x ([("waiting", v0)] : List (Str × V)) = F_Lasts v0 x := rfl
theorem pf_Lasts_spoken {x v0 v1 : V} : putF "spoken" x (F_Lasts v0 v1) = F_Lasts v0 x := rfl
/-! ## the facts -/
def fa : List He.Fa := [.glo "KeepError", .glo "BadNumber", .glo "BadWord", .glo "BadCount", .glo "NoPlace", .glo "NoRoom", .glo "NoSlot", .glo "NoCell", .glo "NoHand", .glo "NothingHeld", .glo "NoName", .glo "NoDeed", .glo "NoImage", .glo "NoProgram", .glo "Lasts", .glo "is_whole", .glo "number_word", .glo "place_word", .glo "_law_draw", .glo "_law_alone", .glo "_law_done", .glo "_law_is_number", .glo "_law_due", .glo "_law_right", .glo "_law_place", .glo "_law_number", .glo "law", .int "MOST_NUMBER" (1000000000000), .int "MOST_PLACE" (9999), .free "isinstance", .free "len", .free "abs", .free "range", .free "enumerate", .free "all", .free "int", .free "bool", .free "list", .free "tuple", .free "ValueError", .exc "KeepError", .exc "BadNumber", .exc "BadWord", .exc "BadCount", .exc "NoPlace", .exc "NoRoom", .exc "NoSlot", .exc "NoCell", .exc "NoHand", .exc "NothingHeld", .exc "NoName", .exc "NoDeed", .exc "NoImage", .exc "NoProgram", .cls "Lasts", .mkr "Lasts", .meth "Lasts" "give", .meth "Lasts" "need", .meth "Lasts" "move", .meth "Lasts" "say", .meth "Lasts" "pending", .meth "Lasts" "said", .noat "Lasts" "waiting", .noat "Lasts" "spoken"]
def d_is_whole : He.DefD := ⟨("is_whole", none), "is_whole", "is_whole", defArgs s_is_whole, defBody s_is_whole, defScope s_is_whole, [], []⟩
def d_number_word : He.DefD := ⟨("number_word", none), "number_word", "number_word", defArgs s_number_word, defBody s_number_word, defScope s_number_word, [], []⟩
def d_place_word : He.DefD := ⟨("place_word", none), "place_word", "place_word", defArgs s_place_word, defBody s_place_word, defScope s_place_word, [], []⟩
def d_Lasts___init__ : He.DefD := ⟨("Lasts", some "__init__"), "__init__", "Lasts.__init__", defArgs s_Lasts___init__, defBody s_Lasts___init__, defScope s_Lasts___init__, [], []⟩
def d_Lasts_give : He.DefD := ⟨("Lasts", some "give"), "give", "Lasts.give", defArgs s_Lasts_give, defBody s_Lasts_give, defScope s_Lasts_give, [], []⟩
def d_Lasts_need : He.DefD := ⟨("Lasts", some "need"), "need", "Lasts.need", defArgs s_Lasts_need, defBody s_Lasts_need, defScope s_Lasts_need, [], []⟩
def d_Lasts_move : He.DefD := ⟨("Lasts", some "move"), "move", "Lasts.move", defArgs s_Lasts_move, defBody s_Lasts_move, defScope s_Lasts_move, [], []⟩
def d_Lasts_say : He.DefD := ⟨("Lasts", some "say"), "say", "Lasts.say", defArgs s_Lasts_say, defBody s_Lasts_say, defScope s_Lasts_say, [], []⟩
def d_Lasts_pending : He.DefD := ⟨("Lasts", some "pending"), "pending", "Lasts.pending", defArgs s_Lasts_pending, defBody s_Lasts_pending, defScope s_Lasts_pending, [], []⟩
def d_Lasts_said : He.DefD := ⟨("Lasts", some "said"), "said", "Lasts.said", defArgs s_Lasts_said, defBody s_Lasts_said, defScope s_Lasts_said, [], []⟩
def d__law_draw : He.DefD := ⟨("_law_draw", none), "_law_draw", "_law_draw", defArgs s__law_draw, defBody s__law_draw, defScope s__law_draw, [], []⟩
def d__law_alone : He.DefD := ⟨("_law_alone", none), "_law_alone", "_law_alone", defArgs s__law_alone, defBody s__law_alone, defScope s__law_alone, [], []⟩
def d__law_done : He.DefD := ⟨("_law_done", none), "_law_done", "_law_done", defArgs s__law_done, defBody s__law_done, defScope s__law_done, [], []⟩
def d__law_is_number : He.DefD := ⟨("_law_is_number", none), "_law_is_number", "_law_is_number", defArgs s__law_is_number, defBody s__law_is_number, defScope s__law_is_number, [], []⟩
def d__law_due : He.DefD := ⟨("_law_due", none), "_law_due", "_law_due", defArgs s__law_due, defBody s__law_due, defScope s__law_due, [], []⟩
def d__law_right : He.DefD := ⟨("_law_right", none), "_law_right", "_law_right", defArgs s__law_right, defBody s__law_right, defScope s__law_right, [], []⟩
def d__law_place : He.DefD := ⟨("_law_place", none), "_law_place", "_law_place", defArgs s__law_place, defBody s__law_place, defScope s__law_place, [], []⟩
def d__law_number : He.DefD := ⟨("_law_number", none), "_law_number", "_law_number", defArgs s__law_number, defBody s__law_number, defScope s__law_number, [], []⟩
def d_law : He.DefD := ⟨("law", none), "law", "law", defArgs s_law, defBody s_law, defScope s_law, [], []⟩
def fn : List He.DefD := [d_is_whole, d_number_word, d_place_word, d_Lasts___init__, d_Lasts_give, d_Lasts_need, d_Lasts_move, d_Lasts_say, d_Lasts_pending, d_Lasts_said, d__law_draw, d__law_alone, d__law_done, d__law_is_number, d__law_due, d__law_right, d__law_place, d__law_number, d_law]
def exL : List Str := ["KeepError", "BadNumber", "BadWord", "BadCount", "NoPlace", "NoRoom", "NoSlot", "NoCell", "NoHand", "NothingHeld", "NoName", "NoDeed", "NoImage", "NoProgram"]
abbrev Tx (K : PySem.W.Frag) (mg : Str → Option Value) : Prop := Told fa fn exL K mg
theorem sc_is_whole : FnScope ["thing"] ["thing"] (defScope s_is_whole) := ⟨rfl, rfl, rfl, by decide +kernel, rfl, by decide +kernel, by decide +kernel⟩
theorem sc_number_word : FnScope ["number"] ["number"] (defScope s_number_word) := ⟨rfl, rfl, rfl, by decide +kernel, rfl, by decide +kernel, by decide +kernel⟩
theorem sc_place_word : FnScope ["at"] ["at"] (defScope s_place_word) := ⟨rfl, rfl, rfl, by decide +kernel, rfl, by decide +kernel, by decide +kernel⟩
theorem sc_Lasts___init__ : FnScope ["self"] ["self"] (defScope s_Lasts___init__) := ⟨rfl, rfl, rfl, by decide +kernel, rfl, by decide +kernel, by decide +kernel⟩
theorem sc_Lasts_give : FnScope ["self", "at", "number"] ["self", "at", "number"] (defScope s_Lasts_give) := ⟨rfl, rfl, rfl, by decide +kernel, rfl, by decide +kernel, by decide +kernel⟩
theorem sc_Lasts_need : FnScope ["self", "ticket"] ["self", "ticket"] (defScope s_Lasts_need) := ⟨rfl, rfl, rfl, by decide +kernel, rfl, by decide +kernel, by decide +kernel⟩
theorem sc_Lasts_move : FnScope ["self", "ticket", "at"] ["self", "ticket", "at"] (defScope s_Lasts_move) := ⟨rfl, rfl, rfl, by decide +kernel, rfl, by decide +kernel, by decide +kernel⟩
theorem sc_Lasts_say : FnScope ["self", "ticket"] ["self", "ticket"] (defScope s_Lasts_say) := ⟨rfl, rfl, rfl, by decide +kernel, rfl, by decide +kernel, by decide +kernel⟩
theorem sc_Lasts_pending : FnScope ["self", "found", "ticket", "pair"] ["self"] (defScope s_Lasts_pending) := ⟨rfl, rfl, rfl, by decide +kernel, rfl, by decide +kernel, by decide +kernel⟩
theorem sc_Lasts_said : FnScope ["self"] ["self"] (defScope s_Lasts_said) := ⟨rfl, rfl, rfl, by decide +kernel, rfl, by decide +kernel, by decide +kernel⟩
theorem sc__law_draw : FnScope ["_law_script", "_law_k"] ["_law_script", "_law_k"] (defScope s__law_draw) := ⟨rfl, rfl, rfl, by decide +kernel, rfl, by decide +kernel, by decide +kernel⟩
theorem sc__law_alone : FnScope ["_law_e", "_law_found"] ["_law_e"] (defScope s__law_alone) := ⟨rfl, rfl, rfl, by decide +kernel, rfl, by decide +kernel, by decide +kernel⟩
theorem sc__law_done : FnScope ["_law_lasts", "_law_way", "_law_ticket", "_law_place_here", "_law_number_here", "_law_e"] ["_law_lasts", "_law_way", "_law_ticket", "_law_place_here", "_law_number_here"] (defScope s__law_done) := ⟨rfl, rfl, rfl, by decide +kernel, rfl, by decide +kernel, by decide +kernel⟩
theorem sc__law_is_number : FnScope ["_law_found"] ["_law_found"] (defScope s__law_is_number) := ⟨rfl, rfl, rfl, by decide +kernel, rfl, by decide +kernel, by decide +kernel⟩
theorem sc__law_due : FnScope ["_law_waits", "_law_way", "_law_ticket", "_law_place_here", "_law_number_here", "_law_good_place"] ["_law_waits", "_law_way", "_law_ticket", "_law_place_here", "_law_number_here"] (defScope s__law_due) := ⟨rfl, rfl, rfl, by decide +kernel, rfl, by decide +kernel, by decide +kernel⟩
theorem sc__law_right : FnScope ["_law_lasts", "_law_waits", "_law_spoken", "_law_due_here", "_law_ticket", "_law_found", "_law_said", "_law_one", "_law_part"] ["_law_lasts", "_law_waits", "_law_spoken"] (defScope s__law_right) := ⟨rfl, rfl, rfl, by decide +kernel, rfl, by decide +kernel, by decide +kernel⟩
theorem sc__law_place : FnScope ["_law_script", "_law_more"] ["_law_script", "_law_more"] (defScope s__law_place) := ⟨rfl, rfl, rfl, by decide +kernel, rfl, by decide +kernel, by decide +kernel⟩
theorem sc__law_number : FnScope ["_law_more"] ["_law_more"] (defScope s__law_number) := ⟨rfl, rfl, rfl, by decide +kernel, rfl, by decide +kernel, by decide +kernel⟩
theorem sc_law : FnScope ["_law_script", "_law_both", "_law_waits", "_law_spoken", "_law_held", "_law_cell", "_law_side", "_law_way", "_law_more", "_law_ticket", "_law_place_here", "_law_number_here", "_law_before", "_law_due_here", "_law_found"] ["_law_script"] (defScope s_law) := ⟨rfl, rfl, rfl, by decide +kernel, rfl, by decide +kernel, by decide +kernel⟩

/-! ## words -/
/-- a plain thing that is no whole number -/
def Odd (H : Hp) (v : V) : Prop := ∃ t, tyOf v H = some t ∧ t ≠ "int"
theorem odd_not {H : Hp} {n : Int} : ¬ Odd H (.int n) := fun ⟨t, e, h⟩ => h (Option.some.inj e).symm
theorem odd_bl {H : Hp} {b : Bool} : Odd H (.bl b) := ⟨"bool", rfl, by decide⟩
theorem odd_non {H : Hp} : Odd H .non := ⟨"NoneType", rfl, by decide⟩
theorem odd_str {H : Hp} {z : Str} : Odd H (.str z) := ⟨"str", rfl, by decide⟩
theorem odd_lst {H : Hp} {a : Addr} {xs : List V} (h : H a = some (.lst xs)) : Odd H (.ref a) := ⟨"list", by show tyO (H a) = _; rw [h]; rfl, by decide⟩
theorem odd_tup {H : Hp} {a : Addr} {xs : List V} (h : H a = some (.tup xs)) : Odd H (.ref a) := ⟨"tuple", by show tyO (H a) = _; rw [h]; rfl, by decide⟩
theorem odd_dK {H : Hp} {a : Addr} {kvs : List (Key × V)} (h : H a = some (.dK kvs)) : Odd H (.ref a) := ⟨"dict", by show tyO (H a) = _; rw [h]; rfl, by decide⟩
inductive Wd where
  | num (n : Int) | place (p : Int) | nothing
  deriving DecidableEq
def Wd.kind : Wd → Str
  | .num _ => "number"
  | .place _ => "place"
  | .nothing => "nothing"
def Wd.worth : Wd → V
  | .num n => .int n
  | .place p => .int p
  | .nothing => .non
def wordOf (n : Int) : Option Wd := if n = -1 then some .nothing else if n % 2 = 0 ∧ (n.natAbs : Int) ≤ 2000000000000 then some (.num (n / 2)) else if n % 2 = 1 ∧ 0 < n ∧ n ≤ 19999 then some (.place (n / 2)) else none
abbrev Ex (K : PySem.W.Frag) (x : Str) : Value := .ref (He.ga K x)
def sp_is_whole : Sp
  | [.int _], H, Q, _ => Q (.bl true) H
  | [v], H, Q, _ => Odd H v ∧ Q (.bl false) H
  | _, _, _, _ => False
theorem len_is_whole {vs H Q E} (h : sp_is_whole vs H Q E) : vs.length = 1 := by unfold sp_is_whole at h; split at h <;> first | rfl | exact h.elim
theorem odd_whole {H : Hp} {v : V} {Q : VK} {E : XK} (h : Odd H v) : sp_is_whole [v] H Q E = Q (.bl false) H := by
  cases v with
  | int n => exact (odd_not h).elim
  | _ => exact propext ⟨fun z => z.2, fun z => ⟨h, z⟩⟩
theorem x_whole {H : Hp} {n : Int} {Q : VK} {E : XK} : sp_is_whole [.int n] H Q E = Q (.bl true) H := rfl
/-- the two questions of is_whole -/
theorem whole_odd {H : Hp} {v : V} {Q : VK} (h : Odd H v) (q : Q (.bl false) H) : gIsi [v, .ty "int"] H fun x H1 => ∃ c, x = .bl c ∧ if c = true then gIsi [v, .ty "bool"] H1 (fun x H2 => ∃ c, x = .bl c ∧ Q (.bl (!c)) H2) else Q (.bl false) H1 := by
  obtain ⟨t, e, ne⟩ := h
  refine ⟨by decide, t, e, _, rfl, ?_⟩
  have m := tyOf_in e
  split
  · rename_i c
    have tb : t = "bool" := by
      simp only [tys, List.mem_cons, List.not_mem_nil, or_false] at m
      rcases m with rfl | rfl | rfl | rfl | rfl | rfl | rfl
      · exact absurd c (by decide)
      · rfl
      · exact absurd rfl ne
      · exact absurd c (by decide)
      · exact absurd c (by decide)
      · exact absurd c (by decide)
      · exact absurd c (by decide)
    subst tb
    exact ⟨by decide, _, e, _, rfl, q⟩
  · exact q
theorem whole_int {H : Hp} {n : Int} {Q : VK} (q : Q (.bl true) H) : gIsi [.int n, .ty "int"] H fun x H1 => ∃ c, x = .bl c ∧ if c = true then gIsi [.int n, .ty "bool"] H1 (fun x H2 => ∃ c, x = .bl c ∧ Q (.bl (!c)) H2) else Q (.bl false) H1 :=
  ⟨by decide, _, rfl, _, rfl, by rw [if_pos (by decide)]; exact ⟨by decide, _, rfl, _, rfl, q⟩⟩
def sp_number_word (K : PySem.W.Frag) : Sp
  | [.int n], H, Q, E => if (n.natAbs : Int) ≤ 1000000000000 then Q (.int (2 * n)) H else E (Ex K "BadNumber") none H
  | [v], H, _, E => Odd H v ∧ E (Ex K "BadNumber") none H
  | _, _, _, _ => False
theorem odd_number_word {K : PySem.W.Frag} {H : Hp} {v : V} {Q : VK} {E : XK} (h : Odd H v) : sp_number_word K [v] H Q E = E (Ex K "BadNumber") none H := by
  cases v with
  | int n => exact (odd_not h).elim
  | _ => exact propext ⟨fun z => z.2, fun z => ⟨h, z⟩⟩
theorem one_number_word {K : PySem.W.Frag} {vs : List V} {H : Hp} {Q : VK} {E : XK} (h : sp_number_word K vs H Q E) : (∃ n, vs = [.int n]) ∨ ∃ v, vs = [v] ∧ Odd H v ∧ E (Ex K "BadNumber") none H := by
  unfold sp_number_word at h
  split at h
  · exact .inl ⟨_, rfl⟩
  · exact .inr ⟨_, rfl, h⟩
  · exact h.elim
theorem len_number_word {K vs H Q E} (h : sp_number_word K vs H Q E) : vs.length = 1 := by unfold sp_number_word at h; split at h <;> first | rfl | exact h.elim
def sp_place_word (K : PySem.W.Frag) : Sp
  | [.int n], H, Q, E => if 0 ≤ n ∧ n ≤ 9999 then Q (.int (2 * n + 1)) H else E (Ex K "NoPlace") none H
  | [v], H, _, E => Odd H v ∧ E (Ex K "NoPlace") none H
  | _, _, _, _ => False
theorem odd_place_word {K : PySem.W.Frag} {H : Hp} {v : V} {Q : VK} {E : XK} (h : Odd H v) : sp_place_word K [v] H Q E = E (Ex K "NoPlace") none H := by
  cases v with
  | int n => exact (odd_not h).elim
  | _ => exact propext ⟨fun z => z.2, fun z => ⟨h, z⟩⟩
theorem one_place_word {K : PySem.W.Frag} {vs : List V} {H : Hp} {Q : VK} {E : XK} (h : sp_place_word K vs H Q E) : (∃ n, vs = [.int n]) ∨ ∃ v, vs = [v] ∧ Odd H v ∧ E (Ex K "NoPlace") none H := by
  unfold sp_place_word at h
  split at h
  · exact .inl ⟨_, rfl⟩
  · exact .inr ⟨_, rfl, h⟩
  · exact h.elim
theorem len_place_word {K vs H Q E} (h : sp_place_word K vs H Q E) : vs.length = 1 := by unfold sp_place_word at h; split at h <;> first | rfl | exact h.elim
def sp_kind (K : PySem.W.Frag) : Sp
  | [.int n], H, Q, E => match wordOf n with
    | some w => Q (.str w.kind) H
    | none => E (Ex K "BadWord") none H
  | [v], H, _, E => Odd H v ∧ E (Ex K "BadWord") none H
  | _, _, _, _ => False
theorem odd_kind {K : PySem.W.Frag} {H : Hp} {v : V} {Q : VK} {E : XK} (h : Odd H v) : sp_kind K [v] H Q E = E (Ex K "BadWord") none H := by
  cases v with
  | int n => exact (odd_not h).elim
  | _ => exact propext ⟨fun z => z.2, fun z => ⟨h, z⟩⟩
theorem one_kind {K : PySem.W.Frag} {vs : List V} {H : Hp} {Q : VK} {E : XK} (h : sp_kind K vs H Q E) : (∃ n, vs = [.int n]) ∨ ∃ v, vs = [v] ∧ Odd H v ∧ E (Ex K "BadWord") none H := by
  unfold sp_kind at h
  split at h
  · exact .inl ⟨_, rfl⟩
  · exact .inr ⟨_, rfl, h⟩
  · exact h.elim
theorem len_kind {K vs H Q E} (h : sp_kind K vs H Q E) : vs.length = 1 := by unfold sp_kind at h; split at h <;> first | rfl | exact h.elim
def sp_worth (K : PySem.W.Frag) : Sp
  | [.int n], H, Q, E => match wordOf n with
    | some w => Q w.worth H
    | none => E (Ex K "BadWord") none H
  | [v], H, _, E => Odd H v ∧ E (Ex K "BadWord") none H
  | _, _, _, _ => False
theorem odd_worth {K : PySem.W.Frag} {H : Hp} {v : V} {Q : VK} {E : XK} (h : Odd H v) : sp_worth K [v] H Q E = E (Ex K "BadWord") none H := by
  cases v with
  | int n => exact (odd_not h).elim
  | _ => exact propext ⟨fun z => z.2, fun z => ⟨h, z⟩⟩
theorem one_worth {K : PySem.W.Frag} {vs : List V} {H : Hp} {Q : VK} {E : XK} (h : sp_worth K vs H Q E) : (∃ n, vs = [.int n]) ∨ ∃ v, vs = [v] ∧ Odd H v ∧ E (Ex K "BadWord") none H := by
  unfold sp_worth at h
  split at h
  · exact .inl ⟨_, rfl⟩
  · exact .inr ⟨_, rfl, h⟩
  · exact h.elim
theorem len_worth {K vs H Q E} (h : sp_worth K vs H Q E) : vs.length = 1 := by unfold sp_worth at h; split at h <;> first | rfl | exact h.elim
section
variable {K : PySem.W.Frag} {H : Hp} {n : Int} {Q : VK} {E : XK}
theorem x_number_word : sp_number_word K [.int n] H Q E = if (n.natAbs : Int) ≤ 1000000000000 then Q (.int (2 * n)) H else E (Ex K "BadNumber") none H := rfl
theorem x_place_word : sp_place_word K [.int n] H Q E = if 0 ≤ n ∧ n ≤ 9999 then Q (.int (2 * n + 1)) H else E (Ex K "NoPlace") none H := rfl
theorem x_kind : sp_kind K [.int n] H Q E = match wordOf n with
    | some w => Q (.str w.kind) H
    | none => E (Ex K "BadWord") none H := rfl
theorem x_worth : sp_worth K [.int n] H Q E = match wordOf n with
    | some w => Q w.worth H
    | none => E (Ex K "BadWord") none H := rfl
end
theorem kind_if {A B C F : Prop} {n : Int} {f : Wd → Prop} (h1 : f .nothing = A) (h2 : f (.num (n / 2)) = B) (h3 : f (.place (n / 2)) = C) :
    (match wordOf n with
    | some w => f w
    | none => F) = if n = -1 then A else if n % 2 = 0 ∧ (n.natAbs : Int) ≤ 2000000000000 then B else if n % 2 = 1 ∧ 0 < n ∧ n ≤ 19999 then C else F := by
  unfold wordOf
  by_cases c1 : n = -1
  · rw [if_pos c1, if_pos c1]; exact h1
  · rw [if_neg c1, if_neg c1]
    by_cases c2 : n % 2 = 0 ∧ (n.natAbs : Int) ≤ 2000000000000
    · rw [if_pos c2, if_pos c2]; exact h2
    · rw [if_neg c2, if_neg c2]
      by_cases c3 : n % 2 = 1 ∧ 0 < n ∧ n ≤ 19999
      · rw [if_pos c3, if_pos c3]; exact h3
      · rw [if_neg c3, if_neg c3]
theorem kind_is (w : Wd) : (w.kind = "nothing" ↔ w = .nothing) ∧ (w.kind = "place" ↔ ∃ p, w = .place p) ∧ (w.kind = "number" ↔ ∃ n, w = .num n) := by
  have d1 : ("number" : Str) ≠ "nothing" := by decide +kernel
  have d2 : ("number" : Str) ≠ "place" := by decide +kernel
  have d3 : ("place" : Str) ≠ "nothing" := by decide +kernel
  cases w with
  | num n => exact ⟨⟨fun z => (d1 z).elim, fun z => by cases z⟩, ⟨fun z => (d2 z).elim, fun ⟨_, z⟩ => by cases z⟩, ⟨fun _ => ⟨n, rfl⟩, fun _ => rfl⟩⟩
  | place n => exact ⟨⟨fun z => (d3 z).elim, fun z => by cases z⟩, ⟨fun _ => ⟨n, rfl⟩, fun _ => rfl⟩, ⟨fun z => (d2 z.symm).elim, fun ⟨_, z⟩ => by cases z⟩⟩
  | nothing => exact ⟨⟨fun _ => rfl, fun _ => rfl⟩, ⟨fun z => (d3 z.symm).elim, fun ⟨_, z⟩ => by cases z⟩, ⟨fun z => (d1 z.symm).elim, fun ⟨_, z⟩ => by cases z⟩⟩
theorem wordOf_div {n : Int} {w : Wd} (h : wordOf n = some w) : w.worth = if w = .nothing then .non else .int (n / 2) := by
  unfold wordOf at h
  repeat' split at h
  all_goals (cases h; try rfl)
local macro_rules | `(tactic| walk_at "w") => `(tactic| try simp only [↓x_var0, ↓x_varS, ↓x_c, ↓x_op, ↓x_un, ↓x_cb, ↓x_nil, ↓x_cons, ↓x_test, ↓x_b, ↓x_ex, ↓x_and, ↓x_or, ↓x_not, ↓x_andV, ↓x_orV, ↓x_notV, ↓x_tif, ↓x_chain, ↓x_menu, ↓x_menuI, ↓x_lst, ↓x_tup, ↓x_dnew, ↓x_callW, ↓x_callN, ↓x_seq, ↓x_next, ↓x_ret, ↓x_retN, ↓x_drop, ↓x_ifS, ↓x_asg, ↓x_name, ↓x_raise, ↓x_fld, ↓x_setF, ↓x_meth, ↓x_make, ↓x_sub, ↓r_min, ↓r_max, ↓x_yes, ↓x_for, ↓x_cut, ↓x_lc, ↓x_rng1, ↓x_rng2, ↓x_lst1, ↓x_itup, ↓x_rng3, ↓x_three, ↓x_lstg, ↓x_tupg, ↓x_adrS, ↓x_one, ↓x_two, ↓x_adr, ↓x_sl, ↓x_np, ↓x_pt, ↓x_int, ↓x_bm, ↓x_bm0, ↓x_consg, ↓x_nilg, ↓x_dget2, ↓x_dget1, ↓x_dget, ↓x_din, ↓x_dni, ↓x_dput, ↓x_dpop2, ↓r_isB, ↓r_notB, ↓x_enum, wipe, List.map_cons, List.map_nil, ↓x_isT, ↓r_isiII, ↓r_isiBB, ↓r_isiIB, ↓r_isiSS, ↓r_neNS, ↓r_neSN, ↓r_neNN, ↓r_eqNS, ↓r_eqSN, ↓r_eqNN, ↓r_eqIS, ↓r_neIS, ↓r_neSI, ↓r_neBS, ↓r_eqBB, ↓r_neBB, ↓x_start, ↓x_K, ↓x_start0, ↓r_i0, ↓r_i, ↓r_u, ↓r_addI, ↓r_addS, ↓r_mulI, ↓r_mulS, ↓r_eqI, ↓r_neI, ↓r_eqS, ↓r_neS, ↓r_absI, ↓r_intI, ↓r_intB, List.length_cons, List.length_nil, List.replicate, List.set_cons_zero, List.set_cons_succ, decide_eq_true_eq, Bool.not_eq_true', decide_eq_false_iff_not, if_true, if_false, Bool.false_eq_true, Bool.true_eq_false, ite_true, ite_false, Bool.not_true, Bool.not_false, c_div, n_ten, c_pow, not_true_eq_false, not_false_eq_true, decide_true, decide_false, true_and, and_true, and_self, true_or, or_true, Int.reduceLT, Int.reduceLE, Int.reduceMul, Int.reduceAdd, Int.reduceSub, Int.reducePow, Int.reduceNeg, Int.reduceDiv, Int.reduceMod, Nat.reducePow, Int.reduceToNat, Int.reduceEq, Int.reduceNe, Nat.reduceLT, Nat.reduceLeDiff, Nat.reduceAdd, ↓x_whole])
section
variable {P : Program} {w : World} {K : PySem.W.Frag} {mg : Str → Option Value} {base : Heap}
theorem f_is_whole (T : Tx K mg) : Fn P w K mg base 1 "is_whole" ["thing"] (sp_is_whole) := by
  refine T.mkFn 0 15 (d := d_is_whole) (N := ["thing"]) (k := 0) rfl rfl rfl rfl rfl sc_is_whole (fun _ _ _ _ _ _ us hl => match us, hl with | [_], _ => rfl) (fun vs H Q E h => ?len) (fun cdv A outer s H vs Q E hr h => ⟨_,
      (pss_one (ps_ret (pe_and (pe_callB call_gIsi (by rfl) (T.free 29) (by decide +kernel) (pa_cons (pv 0) (pa_cons (pe_ty (T := "int") (T.free 35) (by decide +kernel) (by rfl)) pa_nil))) (pe_one (pe_not (pe_callB call_gIsi (by rfl) (T.free 29) (by decide +kernel) (pa_cons (pv 0) (pa_cons (pe_ty (T := "bool") (T.free 36) (by decide +kernel) (by rfl)) pa_nil)))))))), ?rd⟩)
  case len => exact len_is_whole h
  case rd =>
    obtain ⟨v, rfl⟩ : ∃ v, vs = [v] := by unfold sp_is_whole at h; split at h <;> first | exact ⟨_, rfl⟩ | exact h.elim
    walk_at "x"
    cases v with
    | int n => exact whole_int h
    | _ => exact whole_odd h.1 h.2
theorem f_number_word (T : Tx K mg) : Fn P w K mg base 2 "number_word" ["number"] (sp_number_word K) := by
  have c_is_whole := f_is_whole (P := P) (w := w) (base := base) T
  refine T.mkFn 1 16 (d := d_number_word) (N := ["number"]) (k := 1) rfl rfl rfl rfl rfl sc_number_word (fun _ _ _ _ _ _ us hl => match us, hl with | [_], _ => rfl) (fun vs H Q E h => ?len) (fun cdv A outer s H vs Q E hr h => ⟨_,
      (pss_cons (ps_if (PW.pt (pw_or (pt_not (pt_val (pe_fn (takes_of rfl rfl rfl rfl) c_is_whole (hr.mono (by decide)) (by rfl) (pa_cons (pv 0) pa_nil)))) (pw_or1 (pt_cmpR op_gt (pe_callB call_gAbs (by rfl) (T.free 31) (by decide +kernel) (pa_cons (pv 0) pa_nil)) (pe_num (T.num 27) (by rfl)) (nomark _))))) (pss_one (ps_raiseK (K := K) rfl rfl (takes_of rfl rfl rfl rfl) (T.says.fact 41 rfl) (T.glo 1) (by rfl))) pss_nil)
        (pss_one (ps_ret (pe_op op_gMul pe_int (pv 0))))), ?rd⟩)
  case len => exact len_number_word h
  case rd =>
    rcases one_number_word h with ⟨n, rfl⟩ | ⟨v, rfl, o, h⟩
    · walk_at "w"
      rw [x_number_word] at h
      ((repeat' split) <;> (repeat' split at h) <;> first | exact h | (exfalso; omega))
    · walk_at "x"
      rw [odd_whole o]
      walk_at "x"
      exact h
theorem f_place_word (T : Tx K mg) : Fn P w K mg base 2 "place_word" ["at"] (sp_place_word K) := by
  have c_is_whole := f_is_whole (P := P) (w := w) (base := base) T
  refine T.mkFn 2 17 (d := d_place_word) (N := ["at"]) (k := 1) rfl rfl rfl rfl rfl sc_place_word (fun _ _ _ _ _ _ us hl => match us, hl with | [_], _ => rfl) (fun vs H Q E h => ?len) (fun cdv A outer s H vs Q E hr h => ⟨_,
      (pss_cons (ps_if (PW.pt (pw_or (pt_not (pt_val (pe_fn (takes_of rfl rfl rfl rfl) c_is_whole (hr.mono (by decide)) (by rfl) (pa_cons (pv 0) pa_nil)))) (pw_or1 (pt_not (pt_chain op_le op_le pe_int (pv 0) (pe_num (T.num 28) (by rfl))))))) (pss_one (ps_raiseK (K := K) rfl rfl (takes_of rfl rfl rfl rfl) (T.says.fact 44 rfl) (T.glo 4) (by rfl))) pss_nil)
        (pss_one (ps_ret (pe_op op_gAdd (pe_op op_gMul pe_int (pv 0)) pe_int)))), ?rd⟩)
  case len => exact len_place_word h
  case rd =>
    rcases one_place_word h with ⟨n, rfl⟩ | ⟨v, rfl, o, h⟩
    · walk_at "w"
      rw [x_place_word] at h
      ((repeat' split) <;> (repeat' split at h) <;> first | exact h | (exfalso; omega))
    · walk_at "x"
      rw [odd_whole o]
      walk_at "x"
      exact h
local macro_rules | `(tactic| walk_at "w2") => `(tactic| try simp only [↓x_var0, ↓x_varS, ↓x_c, ↓x_op, ↓x_un, ↓x_cb, ↓x_nil, ↓x_cons, ↓x_test, ↓x_b, ↓x_ex, ↓x_and, ↓x_or, ↓x_not, ↓x_andV, ↓x_orV, ↓x_notV, ↓x_tif, ↓x_chain, ↓x_menu, ↓x_menuI, ↓x_lst, ↓x_tup, ↓x_dnew, ↓x_callW, ↓x_callN, ↓x_seq, ↓x_next, ↓x_ret, ↓x_retN, ↓x_drop, ↓x_ifS, ↓x_asg, ↓x_name, ↓x_raise, ↓x_fld, ↓x_setF, ↓x_meth, ↓x_make, ↓x_sub, ↓r_min, ↓r_max, ↓x_yes, ↓x_for, ↓x_cut, ↓x_lc, ↓x_rng1, ↓x_rng2, ↓x_lst1, ↓x_itup, ↓x_rng3, ↓x_three, ↓x_lstg, ↓x_tupg, ↓x_adrS, ↓x_one, ↓x_two, ↓x_adr, ↓x_sl, ↓x_np, ↓x_pt, ↓x_int, ↓x_bm, ↓x_bm0, ↓x_consg, ↓x_nilg, ↓x_dget2, ↓x_dget1, ↓x_dget, ↓x_din, ↓x_dni, ↓x_dput, ↓x_dpop2, ↓r_isB, ↓r_notB, ↓x_enum, wipe, List.map_cons, List.map_nil, ↓x_isT, ↓r_isiII, ↓r_isiBB, ↓r_isiIB, ↓r_isiSS, ↓r_neNS, ↓r_neSN, ↓r_neNN, ↓r_eqNS, ↓r_eqSN, ↓r_eqNN, ↓r_eqIS, ↓r_neIS, ↓r_neSI, ↓r_neBS, ↓r_eqBB, ↓r_neBB, ↓x_start, ↓x_K, ↓x_start0, ↓r_i0, ↓r_i, ↓r_u, ↓r_addI, ↓r_addS, ↓r_mulI, ↓r_mulS, ↓r_eqI, ↓r_neI, ↓r_eqS, ↓r_neS, ↓r_absI, ↓r_intI, ↓r_intB, List.length_cons, List.length_nil, List.replicate, List.set_cons_zero, List.set_cons_succ, decide_eq_true_eq, Bool.not_eq_true', decide_eq_false_iff_not, if_true, if_false, Bool.false_eq_true, Bool.true_eq_false, ite_true, ite_false, Bool.not_true, Bool.not_false, c_div, n_ten, c_pow, not_true_eq_false, not_false_eq_true, decide_true, decide_false, true_and, and_true, and_self, true_or, or_true, Int.reduceLT, Int.reduceLE, Int.reduceMul, Int.reduceAdd, Int.reduceSub, Int.reducePow, Int.reduceNeg, Int.reduceDiv, Int.reduceMod, Nat.reducePow, Int.reduceToNat, Int.reduceEq, Int.reduceNe, Nat.reduceLT, Nat.reduceLeDiff, Nat.reduceAdd, ↓x_whole, ↓x_kind])
end
local macro_rules | `(tactic| walk_at "w2") => `(tactic| try simp only [↓x_var0, ↓x_varS, ↓x_c, ↓x_op, ↓x_un, ↓x_cb, ↓x_nil, ↓x_cons, ↓x_test, ↓x_b, ↓x_ex, ↓x_and, ↓x_or, ↓x_not, ↓x_andV, ↓x_orV, ↓x_notV, ↓x_tif, ↓x_chain, ↓x_menu, ↓x_menuI, ↓x_lst, ↓x_tup, ↓x_dnew, ↓x_callW, ↓x_callN, ↓x_seq, ↓x_next, ↓x_ret, ↓x_retN, ↓x_drop, ↓x_ifS, ↓x_asg, ↓x_name, ↓x_raise, ↓x_fld, ↓x_setF, ↓x_meth, ↓x_make, ↓x_sub, ↓r_min, ↓r_max, ↓x_yes, ↓x_for, ↓x_cut, ↓x_lc, ↓x_rng1, ↓x_rng2, ↓x_lst1, ↓x_itup, ↓x_rng3, ↓x_three, ↓x_lstg, ↓x_tupg, ↓x_adrS, ↓x_one, ↓x_two, ↓x_adr, ↓x_sl, ↓x_np, ↓x_pt, ↓x_int, ↓x_bm, ↓x_bm0, ↓x_consg, ↓x_nilg, ↓x_dget2, ↓x_dget1, ↓x_dget, ↓x_din, ↓x_dni, ↓x_dput, ↓x_dpop2, ↓r_isB, ↓r_notB, ↓x_enum, wipe, List.map_cons, List.map_nil, ↓x_isT, ↓r_isiII, ↓r_isiBB, ↓r_isiIB, ↓r_isiSS, ↓r_neNS, ↓r_neSN, ↓r_neNN, ↓r_eqNS, ↓r_eqSN, ↓r_eqNN, ↓r_eqIS, ↓r_neIS, ↓r_neSI, ↓r_neBS, ↓r_eqBB, ↓r_neBB, ↓x_start, ↓x_K, ↓x_start0, ↓r_i0, ↓r_i, ↓r_u, ↓r_addI, ↓r_addS, ↓r_mulI, ↓r_mulS, ↓r_eqI, ↓r_neI, ↓r_eqS, ↓r_neS, ↓r_absI, ↓r_intI, ↓r_intB, List.length_cons, List.length_nil, List.replicate, List.set_cons_zero, List.set_cons_succ, decide_eq_true_eq, Bool.not_eq_true', decide_eq_false_iff_not, if_true, if_false, Bool.false_eq_true, Bool.true_eq_false, ite_true, ite_false, Bool.not_true, Bool.not_false, c_div, n_ten, c_pow, not_true_eq_false, not_false_eq_true, decide_true, decide_false, true_and, and_true, and_self, true_or, or_true, Int.reduceLT, Int.reduceLE, Int.reduceMul, Int.reduceAdd, Int.reduceSub, Int.reducePow, Int.reduceNeg, Int.reduceDiv, Int.reduceMod, Nat.reducePow, Int.reduceToNat, Int.reduceEq, Int.reduceNe, Nat.reduceLT, Nat.reduceLeDiff, Nat.reduceAdd, ↓x_whole, ↓x_kind])

def tabN : List (Str × Str) := [("BadCount", "count value"), ("NoPlace", "place value"), ("BadWord", "word value")]

/-! ## the script's cells, lists that are read -/
def cell (ns : List Int) (j : Int) : Int := ns.getD j.toNat 0
theorem same_new {H : Hp} {p : Addr} {o : HO} (h : H p = none) : Same H (upd H p o) := fun b u e => by
  rw [upd_ne (ne_of_none e h)]
  exact e
theorem ite_and {P Q A B : Prop} [Decidable P] [Decidable Q] (h1 : P → Q → A) (h2 : ¬ (P ∧ Q) → B) : if P then (if Q then A else B) else B := by
  split
  · split
    · exact h1 ‹_› ‹_›
    · exact h2 fun z => absurd z.2 ‹_›
  · exact h2 fun z => absurd z.1 ‹_›
theorem ite_or {P Q A B : Prop} [Decidable P] [Decidable Q] (h1 : P ∨ Q → A) (h2 : ¬ P → ¬ Q → B) : if P then A else if Q then A else B := by
  split
  · exact h1 (.inl ‹_›)
  · split
    · exact h1 (.inr ‹_›)
    · exact h2 ‹_› ‹_›
/-- a new instance; its first deed -/
theorem same_mk {H : Hp} {x dx C : Addr} (nx : H x = none) (ndx : H dx = none) (ne : dx ≠ x) : Same H (upd (upd H dx (.own x)) x (.ins C dx [])) := (same_new ndx).trans (same_new (by rw [upd_ne ne.symm]; exact nx))
theorem same_init {H H' : Hp} {x dx C : Addr} (nx : H x = none) (ndx : H dx = none) (ne : dx ≠ x) (k : ∀ c o, c ≠ x → upd (upd H dx (.own x)) x (.ins C dx []) c = some o → H' c = some o) : Same H H' := fun c o e => k c o (ne_of_none e nx) (same_mk nx ndx ne c o e)
theorem cut_ints (ns : List Int) (lo hi : Option Int) : ∃ cs : List Int, cutV (ns.map V.int) lo hi = cs.map V.int := ⟨(ns.drop (HT.sIx ns.length 0 lo)).take (HT.sIx ns.length ns.length hi - HT.sIx ns.length 0 lo), by unfold cutV; rw [List.length_map, List.map_take, List.map_drop]⟩
def placeOf (n : Nat) : V → Option Nat
  | .int i => if 0 ≤ i ∧ i < n then some i.toNat else none
  | _ => none
theorem placeOf_int {n : Nat} {i : Int} : placeOf n (.int i) = if 0 ≤ i ∧ i < n then some i.toNat else none := rfl
theorem placeOf_odd {H : Hp} {n : Nat} {v : V} (h : Odd H v) : placeOf n v = none := by
  cases v with
  | int i => exact (odd_not h).elim
  | _ => rfl
theorem placeOf_some {n : Nat} {v : V} {i : Nat} (h : placeOf n v = some i) : v = .int (i : Int) ∧ i < n := by
  cases v with
  | int j =>
    rw [placeOf_int] at h
    split at h
    · rename_i c
      have e := Option.some.inj h
      exact ⟨by rw [← e]; congr 1; omega, by omega⟩
    · cases h
  | _ => cases h
def placeW : V → Option Int
  | .int n => if 0 ≤ n ∧ n ≤ 9999 then some n else none
  | _ => none
theorem placeW_int {n : Int} : placeW (.int n) = if 0 ≤ n ∧ n ≤ 9999 then some n else none := rfl
theorem placeW_odd {H : Hp} {v : V} (h : Odd H v) : placeW v = none := by
  cases v with
  | int i => exact (odd_not h).elim
  | _ => rfl
theorem placeW_some {v : V} {n : Int} (h : placeW v = some n) : v = .int n ∧ 0 ≤ n ∧ n ≤ 9999 := by
  cases v with
  | int j =>
    rw [placeW_int] at h
    split at h
    · rename_i c
      cases h
      exact ⟨rfl, c⟩
    · cases h
  | _ => cases h
theorem all_flat {ws : List Int} : (ws.map V.int).all flatV = true := by
  rw [List.all_map]
  exact List.all_eq_true.mpr fun _ _ => rfl
theorem in_ints {n : Int} {ws : List Int} : inV (.int n) (ws.map V.int) = decide (n ∈ ws) := by
  unfold inV
  rw [List.any_map]
  by_cases c : n ∈ ws
  · rw [decide_eq_true c]
    exact List.any_eq_true.mpr ⟨n, c, beq_self_eq_true n⟩
  · rw [decide_eq_false c]
    refine List.any_eq_false.mpr fun x hx e => c ?_
    have e2 : x = n := eq_of_beq e
    exact e2 ▸ hx
theorem none_of {H H' : Hp} {a : Addr} (s : Same H H') (h : H' a = none) : H a = none := by
  cases e : H a with
  | none => rfl
  | some o =>
    rw [s a o e] at h
    cases h
/-- a list that grows -/
theorem r_app {K : PySem.W.Frag} {H : Hp} {l : Addr} {xs : List V} {y : V} {Q : VK} (h : H l = some (.lst xs)) (hn : xs.length < sizeLine) (q : Q .non (upd H l (.lst (xs ++ [y])))) : tyV K "list" (.ref l) H ∧ rAppend (.ref l) [y] H Q := ⟨.inl ⟨rfl, _, .of h⟩, l, xs, y, rfl, rfl, h, hn, q⟩
theorem ty_lst {K : PySem.W.Frag} {H : Hp} {l : Addr} {xs : List V} (h : H l = some (.lst xs)) : tyV K "list" (.ref l) H := .inl ⟨rfl, _, .of h⟩
theorem same_tyOf {H H' : Hp} {v : V} {t : String} (s : Same H H') (h : tyOf v H = some t) : tyOf v H' = some t := by
  cases v with
  | ref a =>
    have h1 : tyO (H a) = some t := h
    cases e : H a with
    | none =>
      rw [e] at h1
      cases h1
    | some o =>
      rw [e] at h1
      show tyO (H' a) = some t
      rw [s a o e]
      exact h1
  | _ => exact h
theorem odd_same {H H' : Hp} {v : V} (s : Same H H') (h : Odd H v) : Odd H' v := h.elim fun t q => ⟨t, same_tyOf s q.1, q.2⟩
def Thing (H : Hp) (v : V) : Prop := (∃ n, v = .int n) ∨ Odd H v
theorem thing_same {H H' : Hp} {v : V} (s : Same H H') (h : Thing H v) : Thing H' v := h.imp id (odd_same s)
theorem thing_upd {H : Hp} {a : Addr} {o o' : HO} {v : V} (e : H a = some o) (q : tyO (some o) = tyO (some o')) (h : Thing H v) : Thing (upd H a o') v := h.imp id fun ⟨t, g, ne⟩ => ⟨t, by
  cases v with
  | ref b =>
    have h1 : tyO (H b) = some t := g
    show tyO (upd H a o' b) = some t
    by_cases c : b = a
    · subst c
      rw [upd_same, ← q, ← e]
      exact h1
    · rw [upd_ne c]
      exact h1
  | _ => exact g, ne⟩
theorem r_lenS {K : PySem.W.Frag} {H : Hp} {a : Addr} {xs : List V} {Q : VK} (h : SqL K H a xs) (q : Q (.int (xs.length : Int)) H) : L2.rLen K [.ref a] H Q := ⟨_, _, rfl, .inl ⟨_, h, rfl⟩, q⟩
theorem r_ixS {K : PySem.W.Frag} {H : Hp} {a : Addr} {xs : List V} {i : Int} {v : V} {Q : VK} (h : SqL K H a xs) (e : atI xs i = some v) (q : Q v H) : rIx K (.ref a) (.int i) H Q := .inl ⟨_, _, _, _, rfl, rfl, h, e, q⟩
theorem at_pos {α : Type} {xs : List α} {i : Int} {v : α} (h : 0 ≤ i) (e : xs[i.toNat]? = some v) : atI xs i = some v := by
  have hl := (List.getElem?_eq_some_iff.mp e).1
  unfold atI ixN
  rw [if_pos h, if_pos (by omega)]
  exact e
theorem menu_pick {xs : List V} {i : Int} {P : V → Prop} (Good : V → Prop) (h : ∃ v, atI xs i = some v ∧ Good v) (k : ∀ v, Good v → P v) : ∃ v, atI xs i = some v ∧ P v := h.elim fun v q => ⟨v, q.1, k v q.2⟩
theorem cut_int {ns : List Int} {lo hi : Option Int} {i : Nat} {x : V} (h : (cutV (ns.map V.int) lo hi)[i]? = some x) : ∃ c, x = .int c := by
  have m := List.mem_of_getElem? h
  unfold cutV at m
  have m2 := List.mem_of_mem_drop (List.mem_of_mem_take m)
  obtain ⟨c, -, e⟩ := List.mem_map.mp m2
  exact ⟨c, e.symm⟩
theorem sIx_pos {n d : Nat} {v : Int} (h : 0 ≤ v) : HT.sIx n d (some v) = min v.toNat n := by
  show (if v < 0 then (v + (n : Int)).toNat else min v.toNat n) = _
  rw [if_neg (by omega)]
theorem cut_len {xs : List V} {a b : Int} (h0 : 0 ≤ a) (h1 : a ≤ b) : (cutV xs (some a) (some b)).length ≤ (b - a).toNat := by
  unfold cutV
  rw [List.length_take, List.length_drop]
  rw [sIx_pos h0, sIx_pos (by omega)]
  omega
def sp_cell (K : PySem.W.Frag) : Sp := fun vs H Q _ => ∃ a j ns, vs = [.ref a, .int j] ∧ SqL K H a (ns.map V.int) ∧ 0 ≤ j ∧ Q (.int (cell ns j)) H
section
variable {P : Program} {w : World} {K : PySem.W.Frag} {mg : Str → Option Value} {base : Heap}
end

section
variable {P : Program} {w : World} {K : PySem.W.Frag} {mg : Str → Option Value} {base : Heap}
theorem f__law_draw (T : Tx K mg) : Fn P w K mg base 1 "_law_draw" ["_law_script", "_law_k"] (sp_cell K) := by
  refine T.mkFn 10 18 (d := d__law_draw) (N := ["_law_script", "_law_k"]) (k := 0) rfl rfl rfl rfl rfl sc__law_draw (fun _ _ _ _ _ _ us hl => match us, hl with | [_, _], _ => rfl) (fun vs H Q E h => ?len) (fun cdv A outer s H vs Q E hr h => ⟨_,
      (pss_one (ps_ret (pe_ifExp (pt_cmpR op_gt (pe_callB (call_lenK (K := K) rfl) (by rfl) (T.free 30) PySem.boot_len (pa_cons (pv 0) pa_nil)) (pv 1) (nomark _)) (pe_ix (ix_seqK (K := K) rfl) (pv 0) (pv 1) (fun _ _ => rfl)) pe_int))), ?rd⟩)
  case len => obtain ⟨a, j, ns, rfl, _⟩ := h; rfl
  case rd =>
    obtain ⟨a, j, ns, rfl, hS, h0, q⟩ := h
    walk_at "x"
    refine r_lenS hS ?_
    walk_at "x"
    rw [List.length_map]
    unfold cell at q
    split
    · walk_at "x"
      refine r_ixS hS (at_pos h0 (v := .int (ns.getD j.toNat 0)) ?_) q
      rw [List.getElem?_map, List.getElem?_eq_getElem (by omega), List.getD_eq_getElem?_getD, List.getElem?_eq_getElem (by omega)]
      rfl
    · walk_at "x"
      have e : ns.getD j.toNat 0 = 0 := by
        rw [List.getD_eq_getElem?_getD, List.getElem?_eq_none (by omega)]
        rfl
      rw [e] at q
      exact q
end






local macro_rules | `(tactic| walk_at "w2") => `(tactic| try simp only [↓x_var0, ↓x_varS, ↓x_c, ↓x_op, ↓x_un, ↓x_cb, ↓x_nil, ↓x_cons, ↓x_test, ↓x_b, ↓x_ex, ↓x_and, ↓x_or, ↓x_not, ↓x_andV, ↓x_orV, ↓x_notV, ↓x_tif, ↓x_chain, ↓x_menu, ↓x_menuI, ↓x_lst, ↓x_tup, ↓x_dnew, ↓x_callW, ↓x_callN, ↓x_seq, ↓x_next, ↓x_ret, ↓x_retN, ↓x_drop, ↓x_ifS, ↓x_asg, ↓x_name, ↓x_raise, ↓x_fld, ↓x_setF, ↓x_meth, ↓x_make, ↓x_sub, ↓r_min, ↓r_max, ↓x_yes, ↓x_for, ↓x_cut, ↓x_lc, ↓x_rng1, ↓x_rng2, ↓x_lst1, ↓x_itup, ↓x_rng3, ↓x_three, ↓x_lstg, ↓x_tupg, ↓x_adrS, ↓x_one, ↓x_two, ↓x_adr, ↓x_sl, ↓x_np, ↓x_pt, ↓x_int, ↓x_bm, ↓x_bm0, ↓x_consg, ↓x_nilg, ↓x_dget2, ↓x_dget1, ↓x_dget, ↓x_din, ↓x_dni, ↓x_dput, ↓x_dpop2, ↓r_isB, ↓r_notB, ↓x_enum, wipe, List.map_cons, List.map_nil, ↓x_isT, ↓r_isiII, ↓r_isiBB, ↓r_isiIB, ↓r_isiSS, ↓r_neNS, ↓r_neSN, ↓r_neNN, ↓r_eqNS, ↓r_eqSN, ↓r_eqNN, ↓r_eqIS, ↓r_neIS, ↓r_neSI, ↓r_neBS, ↓r_eqBB, ↓r_neBB, ↓x_start, ↓x_K, ↓x_start0, ↓r_i0, ↓r_i, ↓r_u, ↓r_addI, ↓r_addS, ↓r_mulI, ↓r_mulS, ↓r_eqI, ↓r_neI, ↓r_eqS, ↓r_neS, ↓r_absI, ↓r_intI, ↓r_intB, List.length_cons, List.length_nil, List.replicate, List.set_cons_zero, List.set_cons_succ, decide_eq_true_eq, Bool.not_eq_true', decide_eq_false_iff_not, if_true, if_false, Bool.false_eq_true, Bool.true_eq_false, ite_true, ite_false, Bool.not_true, Bool.not_false, c_div, n_ten, c_pow, not_true_eq_false, not_false_eq_true, decide_true, decide_false, true_and, and_true, and_self, true_or, or_true, Int.reduceLT, Int.reduceLE, Int.reduceMul, Int.reduceAdd, Int.reduceSub, Int.reducePow, Int.reduceNeg, Int.reduceDiv, Int.reduceMod, Nat.reducePow, Int.reduceToNat, Int.reduceEq, Int.reduceNe, Nat.reduceLT, Nat.reduceLeDiff, Nat.reduceAdd, ↓x_whole, ↓x_kind])
/-! ## last words -/
/-- what waits: nothing, or a place and a number -/
structure WtAll (H : Hp) (rs : List V) (ws : List (Option (Int × Int))) : Prop where
  len : rs.length = ws.length
  non : ∀ i : Nat, ws[i]? = some none → rs[i]? = some V.non
  pair : ∀ (i : Nat) a n, ws[i]? = some (some (a, n)) → ∃ tp, rs[i]? = some (V.ref tp) ∧ H tp = some (.tup [.int a, .int n])
theorem WtAll.nil {H : Hp} : WtAll H [] [] := ⟨rfl, fun i e => (by cases e), fun i a n e => by cases e⟩
theorem WtAll.fr {H H' : Hp} {rs ws} (h : WtAll H rs ws) (s : ∀ c xs, H c = some (.tup xs) → H' c = some (.tup xs)) : WtAll H' rs ws := ⟨h.len, h.non, fun i a n e => let ⟨tp, e1, e2⟩ := h.pair i a n e; ⟨tp, e1, s _ _ e2⟩⟩
theorem WtAll.same {H H' : Hp} {rs ws} (h : WtAll H rs ws) (s : Same H H') : WtAll H' rs ws := h.fr fun c xs e => s _ _ e
theorem WtAll.put {H : Hp} {rs ws} {D : Addr} {o o' : HO} (h : WtAll H rs ws) (e : H D = some o) (n : ∀ xs, o ≠ .tup xs) : WtAll (upd H D o') rs ws := h.fr fun c xs e' => by rw [upd_ne (ne_of e' e fun z => n _ z.symm)]; exact e'
theorem WtAll.snoc {H : Hp} {rs ws} {tp : Addr} {a n : Int} (h : WtAll H rs ws) (e : H tp = some (.tup [.int a, .int n])) : WtAll H (rs ++ [.ref tp]) (ws ++ [some (a, n)]) := by
  have l := h.len
  refine ⟨by rw [List.length_append, List.length_append, l]; rfl, fun i q => ?_, fun i b m q => ?_⟩
  · rw [List.getElem?_append] at q ⊢
    rw [l]
    split at q
    · rw [if_pos ‹_›]
      exact h.non i q
    · cases h2 : i - ws.length with
      | zero => rw [h2] at q; cases q
      | succ k => rw [h2] at q; cases q
  · rw [List.getElem?_append] at q ⊢
    rw [l]
    split at q
    · rw [if_pos ‹_›]
      exact h.pair i b m q
    · rw [if_neg ‹_›]
      cases h2 : i - ws.length with
      | zero =>
        rw [h2] at q
        cases q
        exact ⟨tp, rfl, e⟩
      | succ k => rw [h2] at q; cases q
theorem WtAll.set {H : Hp} {rs ws} {j : Nat} {tp : Addr} {a n : Int} (h : WtAll H rs ws) (e : H tp = some (.tup [.int a, .int n])) : WtAll H (rs.set j (.ref tp)) (ws.set j (some (a, n))) := by
  have l := h.len
  refine ⟨by rw [List.length_set, List.length_set, l], fun i q => ?_, fun i b m q => ?_⟩
  · rw [List.getElem?_set] at q ⊢
    rw [l]
    split at q
    · split at q
      · cases q
      · cases q
    · rw [if_neg ‹_›]
      exact h.non i q
  · rw [List.getElem?_set] at q ⊢
    rw [l]
    split at q
    · rename_i c
      rw [if_pos c]
      split at q
      · cases q
        rw [if_pos ‹_›]
        exact ⟨tp, rfl, e⟩
      · cases q
    · rw [if_neg ‹_›]
      exact h.pair i b m q
theorem WtAll.rub {H : Hp} {rs ws} {j : Nat} (h : WtAll H rs ws) : WtAll H (rs.set j .non) (ws.set j none) := by
  have l := h.len
  refine ⟨by rw [List.length_set, List.length_set, l], fun i q => ?_, fun i b m q => ?_⟩
  · rw [List.getElem?_set] at q ⊢
    rw [l]
    split at q
    · rename_i c
      rw [if_pos c]
      split at q
      · rw [if_pos ‹_›]
      · cases q
    · rw [if_neg ‹_›]
      exact h.non i q
  · rw [List.getElem?_set] at q ⊢
    rw [l]
    split at q
    · split at q
      · cases q
      · cases q
    · rw [if_neg ‹_›]
      exact h.pair i b m q
def pendOf : Nat → List (Option (Int × Int)) → List (List V)
  | _, [] => []
  | k, none :: r => pendOf (k + 1) r
  | k, some (a, n) :: r => [.int (k : Int), .int a, .int n] :: pendOf (k + 1) r
def pendAt (k : Nat) : Option (Int × Int) → List (List V)
  | none => []
  | some (a, n) => [[.int (k : Int), .int a, .int n]]
theorem pendOf_snoc {ws : List (Option (Int × Int))} {w : Option (Int × Int)} : ∀ k, pendOf k (ws ++ [w]) = pendOf k ws ++ pendAt (k + ws.length) w := by
  induction ws with
  | nil =>
    intro k
    cases w <;> rfl
  | cons t r ih =>
    intro k
    have e : k + (t :: r).length = k + 1 + r.length := by rw [List.length_cons]; omega
    rw [e]
    cases t with
    | none => exact ih (k + 1)
    | some p => exact congrArg (_ :: ·) (ih (k + 1))
theorem pendOf_len {ws : List (Option (Int × Int))} : ∀ k, (pendOf k ws).length ≤ ws.length := by
  induction ws with
  | nil => exact fun _ => Nat.le_refl _
  | cons t r ih =>
    intro k
    have := ih (k + 1)
    cases t with
    | none =>
      show (pendOf (k + 1) r).length ≤ r.length + 1
      omega
    | some p =>
      show (pendOf (k + 1) r).length + 1 ≤ r.length + 1
      omega
theorem pendOf_mem {ws : List (Option (Int × Int))} : ∀ k, ∀ xs ∈ pendOf k ws, ∃ i a n : Int, xs = [.int i, .int a, .int n] := by
  induction ws with
  | nil => exact fun k xs h => (List.not_mem_nil h).elim
  | cons t r ih =>
    intro k xs h
    cases t with
    | none => exact ih (k + 1) xs h
    | some p =>
      rcases List.mem_cons.mp h with rfl | h
      · exact ⟨_, _, _, rfl⟩
      · exact ih (k + 1) xs h
def numW : V → Option Int
  | .int n => if (n.natAbs : Int) ≤ 1000000000000 then some n else none
  | _ => none
theorem numW_int {n : Int} : numW (.int n) = if (n.natAbs : Int) ≤ 1000000000000 then some n else none := rfl
theorem numW_odd {H : Hp} {v : V} (h : Odd H v) : numW v = none := by
  cases v with
  | int i => exact (odd_not h).elim
  | _ => rfl
theorem numW_some {v : V} {n : Int} (h : numW v = some n) : v = .int n ∧ (n.natAbs : Int) ≤ 1000000000000 := by
  cases v with
  | int j =>
    rw [numW_int] at h
    split at h
    · cases h
      exact ⟨rfl, ‹_›⟩
    · cases h
  | _ => cases h
structure LastO (K : PySem.W.Frag) (H : Hp) (b dx d e : Addr) (rs : List V) (ws : List (Option (Int × Int))) (ss : List Int) : Prop where
  ob : H b = some (.ins (He.ga K "Lasts") dx (F_Lasts (.ref d) (.ref e)))
  wa : H d = some (.lst rs)
  wt : WtAll H rs ws
  sk : H e = some (.lst (ss.map V.int))
  de : d ≠ e
theorem LastO.same {K H H' b dx d e rs ws ss} (h : LastO K H b dx d e rs ws ss) (s : Same H H') : LastO K H' b dx d e rs ws ss := ⟨s _ _ h.ob, s _ _ h.wa, h.wt.same s, s _ _ h.sk, h.de⟩
theorem LastO.putD {K H b dx d e rs ws ss rs' ws'} (h : LastO K H b dx d e rs ws ss) (t : WtAll H rs' ws') : LastO K (upd H d (.lst rs')) b dx d e rs' ws' ss :=
  ⟨by rw [upd_ne (ne_of h.ob h.wa (by intro z; cases z))]; exact h.ob, upd_same, t.put h.wa (by intro xs z; cases z), by rw [upd_ne h.de.symm]; exact h.sk, h.de⟩
theorem LastO.putE {K H b dx d e rs ws ss ss'} (h : LastO K H b dx d e rs ws ss) : LastO K (upd H e (.lst (ss'.map V.int))) b dx d e rs ws ss' :=
  ⟨by rw [upd_ne (ne_of h.ob h.sk (by intro z; cases z))]; exact h.ob, by rw [upd_ne h.de]; exact h.wa, h.wt.put h.sk (by intro xs z; cases z), upd_same, h.de⟩
/-- the pair that waits at a ticket -/
def tickOf (ws : List (Option (Int × Int))) (v : V) : Option (Nat × Int × Int) := match placeOf ws.length v with
  | none => none
  | some i => match ws.getD i none with
    | none => none
    | some (a, n) => some (i, a, n)
theorem tick_some {ws v i a n} (h : tickOf ws v = some (i, a, n)) : v = .int (i : Int) ∧ i < ws.length ∧ ws[i]? = some (some (a, n)) := by
  unfold tickOf at h
  cases e : placeOf ws.length v with
  | none => rw [e] at h; cases h
  | some j =>
    rw [e] at h
    obtain ⟨e1, e2⟩ := placeOf_some e
    have ej := getD_at (d := none) e2
    have h : (match ws.getD j none with
      | none => none
      | some (a, n) => some (j, a, n)) = some (i, a, n) := h
    cases e3 : ws.getD j none with
    | none => rw [e3] at h; cases h
    | some p =>
      rw [e3] at h ej
      cases h
      exact ⟨e1, e2, ej⟩
def sp_Lasts___init__ (K : PySem.W.Frag) : Sp := fun vs H Q _ => ∃ b dx, vs = [.ref b] ∧ H b = some (.ins (He.ga K "Lasts") dx []) ∧ ∀ d e H', H d = none → H e = none → LastO K H' b dx d e [] [] [] → (∀ c o, c ≠ b → H c = some o → H' c = some o) → Q .non H'
def sp_Lasts_give (K : PySem.W.Frag) : Sp := fun vs H Q E => ∃ b dx d e rs ws ss v z, vs = [.ref b, v, z] ∧ LastO K H b dx d e rs ws ss ∧ ws.length < 1000000 ∧ Thing H v ∧ Thing H z ∧ match placeW v with
  | some a => (match numW z with
    | some n => ∀ H' rs', LastO K H' b dx d e rs' (ws ++ [some (a, n)]) ss → (∀ c o, c ≠ d → H c = some o → H' c = some o) → Q (.int ws.length) H'
    | none => E (Ex K "BadNumber") none H)
  | none => E (Ex K "NoPlace") none H
def sp_Lasts_need (K : PySem.W.Frag) : Sp := fun vs H Q E => ∃ b dx d e rs ws ss v, vs = [.ref b, v] ∧ LastO K H b dx d e rs ws ss ∧ Thing H v ∧ match tickOf ws v with
  | some _ => Q .non H
  | none => E (Ex K "NoName") none H
def sp_Lasts_move (K : PySem.W.Frag) : Sp := fun vs H Q E => ∃ b dx d e rs ws ss v z, vs = [.ref b, v, z] ∧ LastO K H b dx d e rs ws ss ∧ Thing H v ∧ Thing H z ∧ match tickOf ws v with
  | some (i, a, n) => (match placeW z with
    | some a' => ∀ H' rs', LastO K H' b dx d e rs' (ws.set i (some (a', n))) ss → (∀ c o, c ≠ d → H c = some o → H' c = some o) → Q .non H'
    | none => E (Ex K "NoPlace") none H)
  | none => E (Ex K "NoName") none H
def sp_Lasts_say (K : PySem.W.Frag) : Sp := fun vs H Q E => ∃ b dx d e rs ws ss v, vs = [.ref b, v] ∧ LastO K H b dx d e rs ws ss ∧ ss.length < 1000000 ∧ Thing H v ∧ match tickOf ws v with
  | some (i, a, n) => ∀ H' rs', LastO K H' b dx d e rs' (ws.set i none) (ss ++ [n]) → (∀ c o, c ≠ d → c ≠ e → H c = some o → H' c = some o) → Q .non H'
  | none => E (Ex K "NoName") none H
def sp_Lasts_pending (K : PySem.W.Frag) : Sp := fun vs H Q _ => ∃ b dx d e rs ws ss, vs = [.ref b] ∧ LastO K H b dx d e rs ws ss ∧ ws.length < 1000000 ∧ ∀ p ps H', H p = none → Same H H' → H' p = some (.lst ps) → TupAll H' ps (pendOf 0 ws) → Q (.ref p) H'
def sp_Lasts_said (K : PySem.W.Frag) : Sp := fun vs H Q _ => ∃ b dx d e rs ws ss, vs = [.ref b] ∧ LastO K H b dx d e rs ws ss ∧ ∀ p, H p = none → Q (.ref p) (upd H p (.lst (ss.map V.int)))
section
variable {P : Program} {w : World} {K : PySem.W.Frag} {mg : Str → Option Value} {base : Heap}
theorem f_Lasts___init__ (T : Tx K mg) : Mi P w K mg base 1 "Lasts" ["self"] (sp_Lasts___init__ K) := by
  refine T.mkMi 3 55 14 (d := d_Lasts___init__) (N := ["self"]) (k := 0) rfl rfl rfl rfl rfl rfl sc_Lasts___init__ (fun _ _ _ _ _ _ us hl => match us, hl with | [_], _ => rfl) (fun vs H Q E h => ?len) (fun cdv A outer s H vs Q E hr h => ⟨_,
      (pss_cons (ps_fldC (T.cls 54) (T.noat 62) (pv 0) (pe_lst pa_nil))
        (pss_one (ps_fldC (T.cls 54) (T.noat 63) (pv 0) (pe_lst pa_nil)))), ?rd⟩)
  case len => obtain ⟨b, dx, rfl, _⟩ := h; rfl
  case rd =>
    obtain ⟨b, dx, rfl, M, q⟩ := h
    walk_at "w2"
    refine ⟨by omega, fun d hd => ?_⟩
    have nb : b ≠ d := ne_of_none M hd
    refine ⟨b, dx, _, rfl, by rw [upd_ne nb]; exact M, by decide, by omega, fun e he => ?_⟩
    rw [pi_Lasts_waiting] at he ⊢
    have ed : e ≠ d := by
      intro z
      rw [z, upd_ne nb.symm, upd_same] at he
      cases he
    have eb : b ≠ e := by
      intro z
      rw [← z, upd_same] at he
      cases he
    have he0 : H e = none := by
      rw [upd_ne eb.symm, upd_ne ed] at he
      exact he
    refine ⟨b, dx, _, rfl, by rw [upd_ne eb, upd_same], by show 1 < 1000; decide, ?_⟩
    rw [pi_Lasts_spoken]
    refine q d e _ hd he0 ⟨upd_same, ?_, .nil, ?_, ed.symm⟩ fun c o hc g => ?_
    · rw [upd_ne nb.symm, upd_ne ed.symm, upd_ne nb.symm, upd_same]
    · rw [upd_ne eb.symm, upd_same]
      rfl
    · rw [upd_ne hc, upd_ne (ne_of_none g he0), upd_ne hc, upd_ne (ne_of_none g hd)]
      exact g
theorem f_Lasts_need (T : Tx K mg) : Mt P w K mg base 2 "Lasts" "need" ["self", "ticket"] (sp_Lasts_need K) := by
  have c_is_whole := f_is_whole (P := P) (w := w) (base := base) T
  refine T.mkMt 5 57 54 (d := d_Lasts_need) (N := ["self", "ticket"]) (k := 1) rfl rfl rfl rfl rfl rfl sc_Lasts_need (fun _ _ _ _ _ _ us hl => match us, hl with | [_, _], _ => rfl) (fun vs H Q E h => ?len) (fun cdv A outer s H vs Q E hr h => ⟨_,
      (pss_one (ps_if (PW.pt (pw_or (pt_not (pt_val (pe_fn (takes_of rfl rfl rfl rfl) c_is_whole (hr.mono (by decide)) (by rfl) (pa_cons (pv 1) pa_nil)))) (pw_or (pt_not (pt_chain op_le op_lt pe_int (pv 1) (pe_callB (call_lenK (K := K) rfl) (by rfl) (T.free 30) PySem.boot_len (pa_cons (pe_fldC (T.cls 54) (T.noat 62) (pv 0)) pa_nil)))) (pw_or1 (pt_cmpR op_isN (pe_ix (ix_seqK (K := K) rfl) (pe_fldC (T.cls 54) (T.noat 62) (pv 0)) (pv 1) (fun _ _ => rfl)) pe_non (nomark _)))))) (pss_one (ps_raiseK (K := K) rfl rfl (takes_of rfl rfl rfl rfl) (T.says.fact 50 rfl) (T.glo 10) (by rfl))) pss_nil)), ?rd⟩)
  case len => obtain ⟨b, dx, d, e, rs, ws, ss, v, rfl, _⟩ := h; rfl
  case rd =>
    obtain ⟨b, dx, d, e, rs, ws, ss, v, rfl, B, th, h⟩ := h
    walk_at "w2"
    have ll := B.wt.len
    rcases th with ⟨n, rfl⟩ | o
    · walk_at "w2"
      unfold tickOf at h
      rw [placeOf_int] at h
      split
      · refine ⟨_, fldIs B.ob, r_lenL B.wa ?_⟩
        walk_at "w2"
        split
        · rw [if_neg (by omega)] at h
          exact h
        · rename_i c0 c1
          rw [if_pos (by omega)] at h
          obtain ⟨i, rfl⟩ := Int.eq_ofNat_of_zero_le c0
          rw [Int.toNat_natCast] at h
          have hi : i < ws.length := by omega
          have ei := getD_at (d := none) hi
          refine ⟨_, fldIs B.ob, ?_⟩
          cases ew : ws.getD i none with
          | none =>
            rw [ew] at ei
            refine r_ixL B.wa (B.wt.non i ei) ?_
            walk_at "w2"
            have h : (match (match ws.getD i none with
              | none => none
              | some (a, n) => some (i, a, n)) with
              | some _ => Q .non H
              | none => E (Ex K "NoName") none H) := h
            rw [ew] at h
            exact h
          | some p =>
            rw [ew] at ei
            obtain ⟨tp, e1, e2⟩ := B.wt.pair i p.1 p.2 ei
            refine r_ixL B.wa e1 ?_
            walk_at "w2"
            have h : (match (match ws.getD i none with
              | none => none
              | some (a, n) => some (i, a, n)) with
              | some _ => Q .non H
              | none => E (Ex K "NoName") none H) := h
            rw [ew] at h
            first | exact h | (rw [if_neg (by intro z; cases z)]; exact h)
      · rw [if_neg (by omega)] at h
        exact h
    · rw [odd_whole o]
      unfold tickOf at h
      rw [placeOf_odd o] at h
      walk_at "w2"
      exact h
theorem f_Lasts_give (T : Tx K mg) : Mt P w K mg base 3 "Lasts" "give" ["self", "at", "number"] (sp_Lasts_give K) := by
  have c_place_word := f_place_word (P := P) (w := w) (base := base) T
  have c_number_word := f_number_word (P := P) (w := w) (base := base) T
  refine T.mkMt 4 56 54 (d := d_Lasts_give) (N := ["self", "at", "number"]) (k := 2) rfl rfl rfl rfl rfl rfl sc_Lasts_give (fun _ _ _ _ _ _ us hl => match us, hl with | [_, _, _], _ => rfl) (fun vs H Q E h => ?len) (fun cdv A outer s H vs Q E hr h => ⟨_,
      (pss_cons (ps_expr (pe_fn (takes_of rfl rfl rfl rfl) c_place_word (hr.mono (by decide)) (by rfl) (pa_cons (pv 1) pa_nil)))
        (pss_cons (ps_expr (pe_fn (takes_of rfl rfl rfl rfl) c_number_word (hr.mono (by decide)) (by rfl) (pa_cons (pv 2) pa_nil)))
        (pss_cons (ps_expr (pe_bm PySem.F.plainAttrs_list PySem.F.slot_list_append PySem.F.type_list_append mt_append (pe_fldC (T.cls 54) (T.noat 62) (pv 0)) (pa_cons (pe_tup (pa_cons (pv 1) (pa_cons (pv 2) pa_nil))) pa_nil)))
        (pss_one (ps_ret (pe_op op_sub (pe_callB (call_lenK (K := K) rfl) (by rfl) (T.free 30) PySem.boot_len (pa_cons (pe_fldC (T.cls 54) (T.noat 62) (pv 0)) pa_nil)) pe_int)))))), ?rd⟩)
  case len => obtain ⟨b, dx, d, e, rs, ws, ss, v, z, rfl, _⟩ := h; rfl
  case rd =>
    obtain ⟨b, dx, d, e, rs, ws, ss, v, z, rfl, B, hl, th, tz, h⟩ := h
    walk_at "w2"
    have ll := B.wt.len
    rcases th with ⟨a, rfl⟩ | o
    · rw [x_place_word]
      rw [placeW_int] at h
      split
      · rename_i c
        rw [if_pos c] at h
        walk_at "w2"
        rcases tz with ⟨n, rfl⟩ | o
        · rw [x_number_word]
          rw [numW_int] at h
          split
          · rename_i c2
            rw [if_pos c2] at h
            walk_at "w2"
            refine ⟨_, fldIs B.ob, ty_lst B.wa, by rw [sizeLine_eq]; omega, fun p hp => ?_⟩
            have sp := same_new (o := .tup [.int a, .int n]) hp
            have B1 := B.same sp
            refine ⟨d, _, _, rfl, rfl, B1.wa, by rw [sizeLine_eq]; omega, ?_⟩
            have B2 := B1.putD (B1.wt.snoc (tp := p) upd_same)
            refine ⟨_, fldIs B2.ob, r_lenL B2.wa ?_⟩
            walk_at "w2"
            have e : (((rs ++ [V.ref p]).length : Nat) : Int) - 1 = (ws.length : Int) := by rw [List.length_append]; show ((rs.length + 1 : Nat) : Int) - 1 = _; omega
            rw [e]
            exact h _ _ B2 fun c o hc g => by rw [upd_ne hc]; exact sp _ _ g
          · rename_i c2
            rw [if_neg c2] at h
            exact h
        · rw [odd_number_word o]
          rw [numW_odd o] at h
          exact h
      · rename_i c
        rw [if_neg c] at h
        exact h
    · rw [odd_place_word o]
      rw [placeW_odd o] at h
      exact h
theorem f_Lasts_move (T : Tx K mg) : Mt P w K mg base 3 "Lasts" "move" ["self", "ticket", "at"] (sp_Lasts_move K) := by
  have c_Lasts_need := f_Lasts_need (P := P) (w := w) (base := base) T
  have c_place_word := f_place_word (P := P) (w := w) (base := base) T
  refine T.mkMt 6 58 54 (d := d_Lasts_move) (N := ["self", "ticket", "at"]) (k := 2) rfl rfl rfl rfl rfl rfl sc_Lasts_move (fun _ _ _ _ _ _ us hl => match us, hl with | [_, _, _], _ => rfl) (fun vs H Q E h => ?len) (fun cdv A outer s H vs Q E hr h => ⟨_,
      (pss_cons (ps_expr (pe_mt (K := K) rfl (takes_of rfl rfl rfl rfl) (pv 0) c_Lasts_need (hr.mono (by decide)) (pa_cons (pv 1) pa_nil)))
        (pss_cons (ps_expr (pe_fn (takes_of rfl rfl rfl rfl) c_place_word (hr.mono (by decide)) (by rfl) (pa_cons (pv 2) pa_nil)))
        (pss_one (ps_asg (pe_tup (pa_cons (pv 2) (pa_cons (pe_ix (ix_seqK (K := K) rfl) (pe_ix (ix_seqK (K := K) rfl) (pe_fldC (T.cls 54) (T.noat 62) (pv 0)) (pv 1) (fun _ _ => rfl)) pe_int (fun _ _ => rfl)) pa_nil))) (pg_sub (pe_fldC (T.cls 54) (T.noat 62) (pv 0)) (pv 1) set_list))))), ?rd⟩)
  case len => obtain ⟨b, dx, d, e, rs, ws, ss, v, z, rfl, _⟩ := h; rfl
  case rd =>
    obtain ⟨b, dx, d, e, rs, ws, ss, v, z, rfl, B, th, tz, h⟩ := h
    walk_at "w2"
    refine ⟨recv B.ob, _, _, _, _, _, _, _, _, rfl, B, th, ?_⟩
    cases et : tickOf ws v with
    | none =>
      rw [et] at h
      exact h
    | some t =>
      obtain ⟨i, a, n⟩ := t
      rw [et] at h
      obtain ⟨rfl, hi, ew⟩ := tick_some et
      obtain ⟨tp, e1, e2⟩ := B.wt.pair i a n ew
      have ll := B.wt.len
      walk_at "w2"
      rcases tz with ⟨a', rfl⟩ | o
      · rw [x_place_word]
        rw [placeW_int] at h
        split
        · rename_i c
          rw [if_pos c] at h
          walk_at "w2"
          refine ⟨_, fldIs B.ob, r_ixL B.wa e1 (r_ixT (i := 1) e2 rfl ⟨by rw [sizeLine_eq]; omega, fun p hp => ?_⟩)⟩
          have sp := same_new (o := .tup [.int a', .int n]) hp
          have B1 := B.same sp
          refine ⟨_, fldIs B1.ob, r_setL B1.wa (by omega) (by omega) ?_⟩
          rw [Int.toNat_natCast]
          exact h _ _ (B1.putD (B1.wt.set (tp := p) upd_same)) fun c o hc g => by rw [upd_ne hc]; exact sp _ _ g
        · rename_i c
          rw [if_neg c] at h
          exact h
      · rw [odd_place_word o]
        rw [placeW_odd o] at h
        exact h
theorem f_Lasts_say (T : Tx K mg) : Mt P w K mg base 3 "Lasts" "say" ["self", "ticket"] (sp_Lasts_say K) := by
  have c_Lasts_need := f_Lasts_need (P := P) (w := w) (base := base) T
  refine T.mkMt 7 59 54 (d := d_Lasts_say) (N := ["self", "ticket"]) (k := 2) rfl rfl rfl rfl rfl rfl sc_Lasts_say (fun _ _ _ _ _ _ us hl => match us, hl with | [_, _], _ => rfl) (fun vs H Q E h => ?len) (fun cdv A outer s H vs Q E hr h => ⟨_,
      (pss_cons (ps_expr (pe_mt (K := K) rfl (takes_of rfl rfl rfl rfl) (pv 0) c_Lasts_need (hr.mono (by decide)) (pa_cons (pv 1) pa_nil)))
        (pss_cons (ps_expr (pe_bm PySem.F.plainAttrs_list PySem.F.slot_list_append PySem.F.type_list_append mt_append (pe_fldC (T.cls 54) (T.noat 63) (pv 0)) (pa_cons (pe_ix (ix_seqK (K := K) rfl) (pe_ix (ix_seqK (K := K) rfl) (pe_fldC (T.cls 54) (T.noat 62) (pv 0)) (pv 1) (fun _ _ => rfl)) pe_int (fun _ _ => rfl)) pa_nil)))
        (pss_one (ps_asg pe_non (pg_sub (pe_fldC (T.cls 54) (T.noat 62) (pv 0)) (pv 1) set_list))))), ?rd⟩)
  case len => obtain ⟨b, dx, d, e, rs, ws, ss, v, rfl, _⟩ := h; rfl
  case rd =>
    obtain ⟨b, dx, d, e, rs, ws, ss, v, rfl, B, hl, th, h⟩ := h
    walk_at "w2"
    refine ⟨recv B.ob, _, _, _, _, _, _, _, _, rfl, B, th, ?_⟩
    cases et : tickOf ws v with
    | none =>
      rw [et] at h
      exact h
    | some t =>
      obtain ⟨i, a, n⟩ := t
      rw [et] at h
      obtain ⟨rfl, hi, ew⟩ := tick_some et
      obtain ⟨tp, e1, e2⟩ := B.wt.pair i a n ew
      have ll := B.wt.len
      walk_at "w2"
      refine ⟨_, fldIs B.ob, ty_lst B.sk, _, fldIs B.ob, r_ixL B.wa e1 (r_ixT (i := 1) e2 rfl ⟨e, _, _, rfl, rfl, B.sk, by rw [List.length_map, sizeLine_eq]; omega, ?_⟩)⟩
      have es : ss.map V.int ++ [V.int n] = (ss ++ [n]).map V.int := by rw [List.map_append]; rfl
      rw [es]
      have B1 := B.putE (ss' := ss ++ [n])
      refine ⟨_, fldIs B1.ob, r_setL B1.wa (by omega) (by omega) ?_⟩
      rw [Int.toNat_natCast]
      exact h _ _ (B1.putD B1.wt.rub) fun c o hc hc' g => by rw [upd_ne hc, upd_ne hc']; exact g
theorem f_Lasts_pending (T : Tx K mg) : Mt P w K mg base 1 "Lasts" "pending" ["self"] (sp_Lasts_pending K) := by
  refine T.mkMt 8 60 54 (d := d_Lasts_pending) (N := ["self", "found", "ticket", "pair"]) (k := 0) rfl rfl rfl rfl rfl rfl sc_Lasts_pending (fun _ _ _ _ _ _ us hl => match us, hl with | [_], _ => rfl) (fun vs H Q E h => ?len) (fun cdv A outer s H vs Q E hr h => ⟨_,
      (pss_cons (ps_set (i := 1) sc_Lasts_pending.nd rfl (Or.inl rfl) (pe_lst pa_nil))
        (pss_cons (ps_for (passes_of rfl) rfl (pi_enum (by rfl) (T.free 33) (pa_cons (pe_fldC (T.cls 54) (T.noat 62) (pv 0)) pa_nil)) (pg_tup (n := 2) rfl (pgs_cons (pg_name (i := 2) sc_Lasts_pending.nd rfl (Or.inl rfl)) (pgs_cons (pg_name (i := 3) sc_Lasts_pending.nd rfl (Or.inl rfl)) pgs_nil))) (pss_one (ps_if (pt_cmpR op_notN (pv 3) pe_non (nomark _)) (pss_one (ps_expr (pe_bm PySem.F.plainAttrs_list PySem.F.slot_list_append PySem.F.type_list_append mt_append (pv 1) (pa_cons (pe_tup (pa_cons (pv 2) (pa_cons (pe_ix (ix_seqK (K := K) rfl) (pv 3) pe_int (fun _ _ => rfl)) (pa_cons (pe_ix (ix_seqK (K := K) rfl) (pv 3) pe_int (fun _ _ => rfl)) pa_nil)))) pa_nil)))) pss_nil)))
        (pss_one (ps_ret (pv 1))))), ?rd⟩)
  case len => obtain ⟨b, dx, d, e, rs, ws, ss, rfl, _⟩ := h; rfl
  case rd =>
    obtain ⟨b, dx, d, e, rs, ws, ss, rfl, B, hl, q⟩ := h
    walk_at "w2"
    have ll := B.wt.len
    refine ⟨by omega, fun D hD => ?_⟩
    have sD := same_new (o := .lst []) hD
    have B1 := B.same sD
    refine ⟨_, fldIs B1.ob, d, rs, rfl, .of B1.wa, for_it (walk_enum (xs := rs)) (fun i σ H' => ∃ o2 o3 ps, σ = [some (.ref b), some (.ref D), o2, o3] ∧ Same H H' ∧ H' D = some (.lst ps) ∧ TupAll H' ps (pendOf 0 (ws.take i))) ⟨_, _, [], rfl, sD, upd_same, .nil⟩ ?_ ?_ ?_⟩
    · rintro i σ H' _ ⟨o2, o3, ps, rfl, s, _⟩
      exact .of (s _ _ B.wa)
    · rintro i x σ H1 H' hi ⟨o2, o3, ps, rfl, s, hd, t⟩ ⟨T, y, z, rfl, hT, rfl, e1, e2⟩
      cases Option.some.inj e1
      have e2 : rs[i]? = some z := e2
      have sT := same_new (o := .tup [.int (i : Nat), z]) hT
      have hi' : i < ws.length := by omega
      have ei := getD_at (d := none) hi'
      have ez : ws.take (i + 1) = ws.take i ++ [ws.getD i none] := by rw [List.take_add_one, ei]; rfl
      have el : (ws.take i).length = i := by rw [List.length_take]; omega
      have pl := pendOf_len (ws := ws.take i) 0
      walk_at "w2"
      refine ⟨_, .inl (.inl upd_same), rfl, ?_⟩
      walk_at "w2"
      cases ew : ws.getD i none with
      | none =>
        rw [ew] at ei ez
        have ezn : z = .non := Option.some.inj (e2.symm.trans (B.wt.non i ei))
        subst ezn
        rw [if_neg (fun z => z rfl)]
        refine ⟨_, _, ps, rfl, s.trans sT, sT _ _ hd, ?_⟩
        rw [ez, pendOf_snoc]
        show TupAll _ ps (pendOf 0 (ws.take i) ++ [])
        rw [List.append_nil]
        exact t.same sT
      | some p =>
        obtain ⟨a, n⟩ := p
        rw [ew] at ei ez
        obtain ⟨tp, e3, e4⟩ := B.wt.pair i a n ei
        cases Option.some.inj (e2.symm.trans e3)
        rw [if_pos (by intro z; cases z)]
        have e5 := (s.trans sT) _ _ e4
        have hdT := sT _ _ hd
        refine ⟨ty_lst hdT, r_ixT (i := 0) e5 rfl (r_ixT (i := 1) e5 rfl ⟨by rw [sizeLine_eq]; omega, fun p hp => ?_⟩)⟩
        have sp := same_new (o := .tup [.int (i : Nat), .int a, .int n]) hp
        have tl := t.len
        have hd2 := sp _ _ hdT
        have nD : p ≠ D := (ne_of_none hdT hp).symm
        refine ⟨D, ps, _, rfl, rfl, hd2, by rw [sizeLine_eq]; omega, _, _, _, rfl, ?_, upd_same, ?_⟩
        · exact fun c o g => by rw [upd_ne (ne_of_none g hD)]; exact (s.trans (sT.trans sp)) _ _ g
        · rw [ez, pendOf_snoc, Nat.zero_add, el]
          refine ((t.same (sT.trans sp)).put hd2 (by intro xs z; cases z)).snoc (by rw [upd_ne nD]; exact upd_same) fun x hx => ?_
          rcases List.mem_cons.mp hx with rfl | hx
          · rfl
          rcases List.mem_cons.mp hx with rfl | hx
          · rfl
          · rw [List.mem_singleton] at hx
            subst hx
            rfl
    · rintro σ H' ⟨o2, o3, ps, rfl, s, hd, t⟩
      rw [ll, List.take_length] at t
      walk_at "w2"
      exact q D ps H' hD s hd t
theorem f_Lasts_said (T : Tx K mg) : Mt P w K mg base 1 "Lasts" "said" ["self"] (sp_Lasts_said K) := by
  refine T.mkMt 9 61 54 (d := d_Lasts_said) (N := ["self"]) (k := 0) rfl rfl rfl rfl rfl rfl sc_Lasts_said (fun _ _ _ _ _ _ us hl => match us, hl with | [_], _ => rfl) (fun vs H Q E h => ?len) (fun cdv A outer s H vs Q E hr h => ⟨_,
      (pss_one (ps_ret (pe_callTy (call_listK (K := K) rfl) (by rfl) (T.free 37) (by decide +kernel) (pa_cons (pe_fldC (T.cls 54) (T.noat 63) (pv 0)) pa_nil)))), ?rd⟩)
  case len => obtain ⟨b, dx, d, e, rs, ws, ss, rfl, _⟩ := h; rfl
  case rd =>
    obtain ⟨b, dx, d, e, rs, ws, ss, rfl, B, q⟩ := h
    walk_at "w2"
    refine ⟨_, fldIs B.ob, e, _, rfl, .inl (.of B.sk), fun p hp => q p hp⟩
end

def sp_is_number (_ : PySem.W.Frag) : Sp := fun vs H Q _ => ∃ v, vs = [v] ∧ Thing H v ∧ Q (.bl (match v with
  | .int _ => true
  | _ => false)) H
theorem x_isnum {K : PySem.W.Frag} {n : Int} {H : Hp} {Q : VK} {E : XK} : sp_is_number K [.int n] H Q E = Q (.bl true) H := propext ⟨fun ⟨_, e, _, q⟩ => by cases e; exact q, fun q => ⟨_, rfl, .inl ⟨n, rfl⟩, q⟩⟩
theorem odd_isnum {K : PySem.W.Frag} {v : V} {H : Hp} {Q : VK} {E : XK} (o : Odd H v) : sp_is_number K [v] H Q E = Q (.bl false) H := by
  refine propext ⟨fun ⟨_, e, _, q⟩ => ?_, fun q => ⟨_, rfl, .inr o, ?_⟩⟩
  · cases e
    cases v <;> first | exact (odd_not o).elim | exact q
  · cases v <;> first | exact (odd_not o).elim | exact q
local macro_rules | `(tactic| walk_at "w3") => `(tactic| try simp only [↓x_var0, ↓x_varS, ↓x_c, ↓x_op, ↓x_un, ↓x_cb, ↓x_nil, ↓x_cons, ↓x_test, ↓x_b, ↓x_ex, ↓x_and, ↓x_or, ↓x_not, ↓x_andV, ↓x_orV, ↓x_notV, ↓x_tif, ↓x_chain, ↓x_menu, ↓x_menuI, ↓x_lst, ↓x_tup, ↓x_dnew, ↓x_callW, ↓x_callN, ↓x_seq, ↓x_next, ↓x_ret, ↓x_retN, ↓x_drop, ↓x_ifS, ↓x_asg, ↓x_name, ↓x_raise, ↓x_fld, ↓x_setF, ↓x_meth, ↓x_make, ↓x_sub, ↓r_min, ↓r_max, ↓x_yes, ↓x_for, ↓x_cut, ↓x_lc, ↓x_rng1, ↓x_rng2, ↓x_lst1, ↓x_itup, ↓x_rng3, ↓x_three, ↓x_lstg, ↓x_tupg, ↓x_adrS, ↓x_one, ↓x_two, ↓x_adr, ↓x_sl, ↓x_np, ↓x_pt, ↓x_int, ↓x_bm, ↓x_bm0, ↓x_consg, ↓x_nilg, ↓x_dget2, ↓x_dget1, ↓x_dget, ↓x_din, ↓x_dni, ↓x_dput, ↓x_dpop2, ↓r_isB, ↓r_notB, ↓x_enum, wipe, List.map_cons, List.map_nil, ↓x_isT, ↓r_isiII, ↓r_isiBB, ↓r_isiIB, ↓r_isiSS, ↓r_neNS, ↓r_neSN, ↓r_neNN, ↓r_eqNS, ↓r_eqSN, ↓r_eqNN, ↓r_eqIS, ↓r_neIS, ↓r_neSI, ↓r_neBS, ↓r_eqBB, ↓r_neBB, ↓x_start, ↓x_K, ↓x_start0, ↓r_i0, ↓r_i, ↓r_u, ↓r_addI, ↓r_addS, ↓r_mulI, ↓r_mulS, ↓r_eqI, ↓r_neI, ↓r_eqS, ↓r_neS, ↓r_absI, ↓r_intI, ↓r_intB, List.length_cons, List.length_nil, List.replicate, List.set_cons_zero, List.set_cons_succ, decide_eq_true_eq, Bool.not_eq_true', decide_eq_false_iff_not, if_true, if_false, Bool.false_eq_true, Bool.true_eq_false, ite_true, ite_false, Bool.not_true, Bool.not_false, c_div, n_ten, c_pow, not_true_eq_false, not_false_eq_true, decide_true, decide_false, true_and, and_true, and_self, true_or, or_true, Int.reduceLT, Int.reduceLE, Int.reduceMul, Int.reduceAdd, Int.reduceSub, Int.reducePow, Int.reduceNeg, Int.reduceDiv, Int.reduceMod, Nat.reducePow, Int.reduceToNat, Int.reduceEq, Int.reduceNe, Nat.reduceLT, Nat.reduceLeDiff, Nat.reduceAdd, ↓x_whole, ↓x_kind, ↓x_isnum])
section
variable {P : Program} {w : World} {K : PySem.W.Frag} {mg : Str → Option Value} {base : Heap}
theorem f__law_is_number (T : Tx K mg) : Fn P w K mg base 1 "_law_is_number" ["_law_found"] (sp_is_number K) := by
  refine T.mkFn 13 21 (d := d__law_is_number) (N := ["_law_found"]) (k := 0) rfl rfl rfl rfl rfl sc__law_is_number (fun _ _ _ _ _ _ us hl => match us, hl with | [_], _ => rfl) (fun vs H Q E h => ?len) (fun cdv A outer s H vs Q E hr h => ⟨_,
      (pss_one (ps_ret (pe_and (pe_callB call_gIsi (by rfl) (T.free 29) (by decide +kernel) (pa_cons (pv 0) (pa_cons (pe_ty (T := "int") (T.free 35) (by decide +kernel) (by rfl)) pa_nil))) (pe_and (pe_cmpR op_gNotB (pv 0) pe_bl (nomark _)) (pe_one (pe_cmpR op_gNotB (pv 0) pe_bl (nomark _))))))), ?rd⟩)
  case len => obtain ⟨v, rfl, _⟩ := h; rfl
  case rd =>
    obtain ⟨v, rfl, th, q⟩ := h
    walk_at "w3"
    rcases th with ⟨n, rfl⟩ | o
    · walk_at "w3"
      rw [if_pos (by intro z; cases z), decide_eq_false (by intro z; cases z)]
      exact q
    · obtain ⟨t, e, ne⟩ := o
      have fin : (∀ b, v ≠ .bl b) → gIsi [v, .ty "int"] H fun x H1 => ∃ c, x = .bl c ∧ if c = true then if ¬ v = .bl true then Q (.bl !decide (v = .bl false)) H1 else Q (.bl false) H1 else Q (.bl false) H1 := fun nb => by
        refine r_isi e ⟨_, rfl, ?_⟩
        have m := tyOf_in e
        split
        · rename_i c
          simp only [tys, List.mem_cons, List.not_mem_nil, or_false] at m
          rcases m with rfl | rfl | rfl | rfl | rfl | rfl | rfl
          · exact absurd c (by decide)
          · cases v with
            | bl b => exact (nb b rfl).elim
            | ref a =>
              exfalso
              have e1 : tyO (H a) = some "bool" := e
              cases e2 : H a with
              | none => rw [e2] at e1; cases e1
              | some o =>
                rw [e2] at e1
                unfold tyO at e1
                split at e1 <;> first | exact absurd (Option.some.inj e1) (by decide) | cases e1
            | _ => first | exact absurd (Option.some.inj e) (by decide) | cases e
          · exact absurd rfl ne
          · exact absurd c (by decide)
          · exact absurd c (by decide)
          · exact absurd c (by decide)
          · exact absurd c (by decide)
        · cases v <;> first | exact q | exact (odd_not ⟨t, e, ne⟩).elim
      cases v with
      | int n => exact (odd_not ⟨t, e, ne⟩).elim
      | bl b =>
        refine r_isi (t := "bool") rfl ⟨_, rfl, ?_⟩
        rw [if_pos (by decide)]
        cases b
        · rw [if_pos (by intro z; cases z)]
          exact q
        · rw [if_neg (fun z => z rfl)]
          exact q
      | _ => exact fin fun b z => by cases z
end


local macro_rules | `(tactic| walk_at "w3") => `(tactic| try simp only [↓x_var0, ↓x_varS, ↓x_c, ↓x_op, ↓x_un, ↓x_cb, ↓x_nil, ↓x_cons, ↓x_test, ↓x_b, ↓x_ex, ↓x_and, ↓x_or, ↓x_not, ↓x_andV, ↓x_orV, ↓x_notV, ↓x_tif, ↓x_chain, ↓x_menu, ↓x_menuI, ↓x_lst, ↓x_tup, ↓x_dnew, ↓x_callW, ↓x_callN, ↓x_seq, ↓x_next, ↓x_ret, ↓x_retN, ↓x_drop, ↓x_ifS, ↓x_asg, ↓x_name, ↓x_raise, ↓x_fld, ↓x_setF, ↓x_meth, ↓x_make, ↓x_sub, ↓r_min, ↓r_max, ↓x_yes, ↓x_for, ↓x_cut, ↓x_lc, ↓x_rng1, ↓x_rng2, ↓x_lst1, ↓x_itup, ↓x_rng3, ↓x_three, ↓x_lstg, ↓x_tupg, ↓x_adrS, ↓x_one, ↓x_two, ↓x_adr, ↓x_sl, ↓x_np, ↓x_pt, ↓x_int, ↓x_bm, ↓x_bm0, ↓x_consg, ↓x_nilg, ↓x_dget2, ↓x_dget1, ↓x_dget, ↓x_din, ↓x_dni, ↓x_dput, ↓x_dpop2, ↓r_isB, ↓r_notB, ↓x_enum, wipe, List.map_cons, List.map_nil, ↓x_isT, ↓r_isiII, ↓r_isiBB, ↓r_isiIB, ↓r_isiSS, ↓r_neNS, ↓r_neSN, ↓r_neNN, ↓r_eqNS, ↓r_eqSN, ↓r_eqNN, ↓r_eqIS, ↓r_neIS, ↓r_neSI, ↓r_neBS, ↓r_eqBB, ↓r_neBB, ↓x_start, ↓x_K, ↓x_start0, ↓r_i0, ↓r_i, ↓r_u, ↓r_addI, ↓r_addS, ↓r_mulI, ↓r_mulS, ↓r_eqI, ↓r_neI, ↓r_eqS, ↓r_neS, ↓r_absI, ↓r_intI, ↓r_intB, List.length_cons, List.length_nil, List.replicate, List.set_cons_zero, List.set_cons_succ, decide_eq_true_eq, Bool.not_eq_true', decide_eq_false_iff_not, if_true, if_false, Bool.false_eq_true, Bool.true_eq_false, ite_true, ite_false, Bool.not_true, Bool.not_false, c_div, n_ten, c_pow, not_true_eq_false, not_false_eq_true, decide_true, decide_false, true_and, and_true, and_self, true_or, or_true, Int.reduceLT, Int.reduceLE, Int.reduceMul, Int.reduceAdd, Int.reduceSub, Int.reducePow, Int.reduceNeg, Int.reduceDiv, Int.reduceMod, Nat.reducePow, Int.reduceToNat, Int.reduceEq, Int.reduceNe, Nat.reduceLT, Nat.reduceLeDiff, Nat.reduceAdd, ↓x_whole, ↓x_kind, ↓x_isnum])
def sp_alone (K : PySem.W.Frag) : Sp := fun vs H Q _ => ∃ a n r, vs = [.ref a] ∧ H a = some (ExA (Ex K n) a) ∧ (n, r) ∈ ([("NoName", "name"), ("NoPlace", "place"), ("BadNumber", "number")] : List (Str × Str)) ∧ Q (.str r) H
abbrev Wt := List (Option (Int × Int))
/-- what is answered, what waits and what is said behind a deed -/
def dueL (ws : Wt) (ss : List Int) (way : Int) (v z y : V) : V × Wt × List Int :=
  if way = 0 then (match placeW z with
    | none => (.str "place", ws, ss)
    | some a => match numW y with
      | none => (.str "number", ws, ss)
      | some n => (.int ws.length, ws ++ [some (a, n)], ss))
  else match tickOf ws v with
    | none => (.str "name", ws, ss)
    | some (i, _, n) => if way = 1 then (match placeW z with
      | none => (.str "place", ws, ss)
      | some a => (.non, ws.set i (some (a, n)), ss)) else (.non, ws.set i none, ss ++ [n])
theorem dueL_0 {ws : Wt} {ss : List Int} {v z y : V} : dueL ws ss 0 v z y = (match placeW z with
    | none => (.str "place", ws, ss)
    | some a => match numW y with
      | none => (.str "number", ws, ss)
      | some n => (.int ws.length, ws ++ [some (a, n)], ss)) := rfl
theorem dueL_1 {ws : Wt} {ss : List Int} {v z y : V} : dueL ws ss 1 v z y = (match tickOf ws v with
    | none => (.str "name", ws, ss)
    | some (i, _, n) => match placeW z with
      | none => (.str "place", ws, ss)
      | some a => (.non, ws.set i (some (a, n)), ss)) := rfl
theorem dueL_2 {ws : Wt} {ss : List Int} {v z y : V} : dueL ws ss 2 v z y = (match tickOf ws v with
    | none => (.str "name", ws, ss)
    | some (i, _, n) => (.non, ws.set i none, ss ++ [n])) := rfl
theorem all_rep {n : Nat} : (List.replicate n true).all id = true := List.all_eq_true.mpr fun b hb => (List.mem_replicate.mp hb).2
theorem tick_int {ws : Wt} {i : Nat} (h : i < ws.length) : tickOf ws (.int i) = (match ws.getD i none with
    | none => none
    | some (a, n) => some (i, a, n)) := by
  unfold tickOf
  rw [placeOf_int, if_pos ⟨by omega, by omega⟩, Int.toNat_natCast]
  try rfl
theorem tick_off {ws : Wt} {v : V} (h : placeOf ws.length v = none) : tickOf ws v = none := by
  unfold tickOf
  rw [h]
theorem tick_kind {ws : Wt} {ss : List Int} {way : Int} {v z y : V} (hw : way = 1 ∨ way = 2) (e : tickOf ws v = none) : (dueL ws ss way v z y).1 = .str "name" := by
  rcases hw with rfl | rfl
  · rw [dueL_1, e]
  · rw [dueL_2, e]
def sp_done (K : PySem.W.Frag) : Sp := fun vs H Q _ => ∃ b dx d e rs ws ss way v z y, vs = [.ref b, .int way, v, z, y] ∧ LastO K H b dx d e rs ws ss ∧ ws.length < 100000 ∧ ss.length < 100000 ∧ (way = 0 ∨ way = 1 ∨ way = 2) ∧ Thing H v ∧ Thing H z ∧ Thing H y ∧
  ∀ H' rs', LastO K H' b dx d e rs' (dueL ws ss way v z y).2.1 (dueL ws ss way v z y).2.2 → (∀ c o, c ≠ d → c ≠ e → H c = some o → H' c = some o) → Q (dueL ws ss way v z y).1 H'
def sp_due (_ : PySem.W.Frag) : Sp := fun vs H Q _ => ∃ l rs ws ss way v z y, vs = [.ref l, .int way, v, z, y] ∧ H l = some (.lst rs) ∧ WtAll H rs ws ∧ (way = 0 ∨ way = 1 ∨ way = 2) ∧ Thing H v ∧ Thing H z ∧ Thing H y ∧ Q (dueL ws ss way v z y).1 H
def sp_right (K : PySem.W.Frag) : Sp := fun vs H Q _ => ∃ b dx d e rs ws ss l m rs', vs = [.ref b, .ref l, .ref m] ∧ LastO K H b dx d e rs ws ss ∧ H l = some (.lst rs') ∧ WtAll H rs' ws ∧ H m = some (.lst (ss.map V.int)) ∧ ws.length < 100000 ∧ ss.length < 100000 ∧ ∀ H', Same H H' → Q (.bl true) H'
def sp_lplace (K : PySem.W.Frag) : Sp := fun vs H Q _ => ∃ a c, ∃ ns : List Int, vs = [.ref a, .int c] ∧ SqL K H a (ns.map V.int) ∧ ∀ v H', Same H H' → Thing H' v → Q v H'
def sp_lnumber (_ : PySem.W.Frag) : Sp := fun vs H Q _ => ∃ c, vs = [.int c] ∧ ∀ v H', Same H H' → Thing H' v → Q v H'
section
variable {P : Program} {w : World} {K : PySem.W.Frag} {mg : Str → Option Value} {base : Heap}
theorem f__law_alone (T : Tx K mg) : FnH P w K mg base 1 "_law_alone" ["_law_e"] (sp_alone K) := by
  refine T.mkFnH 11 19 (d := d__law_alone) (N := ["_law_e", "_law_found"]) (k := 0) rfl rfl rfl rfl rfl sc__law_alone (fun _ _ _ _ _ _ us hl => match us, hl with | [_], _ => rfl) (fun vs H Q E h => ?len) (fun cdv A outer s H vs Q hr h => ⟨_,
      (pss_cons (ps_set (i := 1) sc__law_alone.nd rfl (Or.inl rfl) (pe_op op_gAdd (pe_op op_gMul pe_str (pe_callTy call_gInt (by rfl) (T.free 35) (by decide +kernel) (pa_cons (pe_callB (call_isEK (K := K) rfl) (by rfl) (T.free 29) (by decide +kernel) (pa_cons (pv 0) (pa_cons (pe_clsK (K := K) rfl (T.glo 10) (by rfl)) pa_nil))) pa_nil))) (pe_op op_gMul pe_str (pe_callTy call_gInt (by rfl) (T.free 35) (by decide +kernel) (pa_cons (pe_callB (call_isEK (K := K) rfl) (by rfl) (T.free 29) (by decide +kernel) (pa_cons (pv 0) (pa_cons (pe_clsK (K := K) rfl (T.glo 4) (by rfl)) pa_nil))) pa_nil)))))
        (pss_cons (ps_set (i := 1) sc__law_alone.nd rfl (Or.inl rfl) (pe_op op_gAdd (pv 1) (pe_op op_gMul pe_str (pe_callTy call_gInt (by rfl) (T.free 35) (by decide +kernel) (pa_cons (pe_callB (call_isEK (K := K) rfl) (by rfl) (T.free 29) (by decide +kernel) (pa_cons (pv 0) (pa_cons (pe_clsK (K := K) rfl (T.glo 1) (by rfl)) pa_nil))) pa_nil)))))
        (pss_cons (ps_if (pt_val (pe_isT (by rfl) (T.free 29) (pv 0) (pa_cons (pe_clsK (K := K) rfl (T.glo 3) (by rfl)) (pa_cons (pe_clsK (K := K) rfl (T.glo 2) (by rfl)) (pa_cons (pe_clsK (K := K) rfl (T.glo 7) (by rfl)) (pa_cons (pe_clsK (K := K) rfl (T.glo 11) (by rfl)) (pa_cons (pe_clsK (K := K) rfl (T.glo 8) (by rfl)) (pa_cons (pe_clsK (K := K) rfl (T.glo 5) (by rfl)) (pa_cons (pe_clsK (K := K) rfl (T.glo 6) (by rfl)) (pa_cons (pe_clsK (K := K) rfl (T.glo 9) (by rfl)) pa_nil)))))))))) (pss_one (ps_set (i := 1) sc__law_alone.nd rfl (Or.inl rfl) (pe_op op_gAdd (pv 1) pe_str))) pss_nil)
        (pss_cons (ps_if (pt_val (pe_isT (by rfl) (T.free 29) (pv 0) (pa_cons (pe_clsK (K := K) rfl (T.glo 12) (by rfl)) (pa_cons (pe_clsK (K := K) rfl (T.glo 13) (by rfl)) pa_nil)))) (pss_one (ps_set (i := 1) sc__law_alone.nd rfl (Or.inl rfl) (pe_op op_gAdd (pv 1) pe_str))) pss_nil)
        (pss_one (ps_ret (pe_op op_gAdd (pv 1) (pe_op op_gMul pe_str (pe_callTy call_gInt (by rfl) (T.free 35) (by decide +kernel) (pa_cons (pe_not (pe_callB (call_isEK (K := K) rfl) (by rfl) (T.free 29) (by decide +kernel) (pa_cons (pv 0) (pa_cons (pe_ty (T := "ValueError") (T.free 39) (by decide +kernel) (by rfl)) pa_nil)))) pa_nil)))))))))), ?rd⟩)
  case len => obtain ⟨a, n, r, rfl, _⟩ := h; rfl
  case rd =>
    obtain ⟨a, n, r, rfl, ha, hn, q⟩ := h
    simp only [List.mem_cons, List.not_mem_nil, or_false, Prod.mk.injEq] at hn
    rcases hn with ⟨rfl, rfl⟩ | ⟨rfl, rfl⟩ | ⟨rfl, rfl⟩
    all_goals
      walk_at "w3"
      repeat ((first | refine T.isY ha (by decide +kernel) (by decide +kernel) (by decide +kernel) ?_ | refine T.isN ha (by decide +kernel) (by decide +kernel) (by decide +kernel) ?_); walk_at "w3"; (try refine ⟨by decide +kernel, ?_⟩))
      (apply T.isA (b := false) ha; (· repeat first | exact .nil | apply NamesK.cons); (· decide +kernel); (· decide +kernel); (· decide +kernel); (· decide +kernel))
      walk_at "w3"
      (apply T.isA (b := false) ha; (· repeat first | exact .nil | apply NamesK.cons); (· decide +kernel); (· decide +kernel); (· decide +kernel); (· decide +kernel))
      walk_at "w3"
      refine T.isV ha (by decide +kernel) ?_
      walk_at "w3"
      exact ⟨by decide +kernel, q_str q (by decide +kernel)⟩
theorem f__law_done (T : Tx K mg) : Fn P w K mg base 4 "_law_done" ["_law_lasts", "_law_way", "_law_ticket", "_law_place_here", "_law_number_here"] (sp_done K) := by
  have c_Lasts_give := f_Lasts_give (P := P) (w := w) (base := base) T
  have c_Lasts_move := f_Lasts_move (P := P) (w := w) (base := base) T
  have c_Lasts_say := f_Lasts_say (P := P) (w := w) (base := base) T
  have c__law_alone := f__law_alone (P := P) (w := w) (base := base) T
  refine T.mkFn 12 20 (d := d__law_done) (N := ["_law_lasts", "_law_way", "_law_ticket", "_law_place_here", "_law_number_here", "_law_e"]) (k := 3) rfl rfl rfl rfl rfl sc__law_done (fun _ _ _ _ _ _ us hl => match us, hl with | [_, _, _, _, _], _ => rfl) (fun vs H Q E h => ?len) (fun cdv A outer s H vs Q E hr h => ⟨_,
      (pss_one (ps_tryT (i := 5) rfl rfl rfl sc__law_done.nd rfl rfl ⟨by rfl, by decide, Or.inl (T.glo 0)⟩ (takes_of rfl rfl rfl rfl) (fun W pn xe tk po => (pss_cons (ps_if (pt_cmpR (op_eqK (K := K) rfl hr.units) (pv 1) pe_int (nomark _)) (pss_one (ps_ret (pe_mt (K := K) rfl tk (pv 0) c_Lasts_give (hr.mono (by decide)) (pa_cons (pv 3) (pa_cons (pv 4) pa_nil))))) pss_nil)
        (pss_cons (ps_if (pt_cmpR (op_eqK (K := K) rfl hr.units) (pv 1) pe_int (nomark _)) (pss_one (ps_ret (pe_mt (K := K) rfl tk (pv 0) c_Lasts_move (hr.mono (by decide)) (pa_cons (pv 2) (pa_cons (pv 3) pa_nil))))) pss_nil)
        (pss_one (ps_ret (pe_mt (K := K) rfl tk (pv 0) c_Lasts_say (hr.mono (by decide)) (pa_cons (pv 2) pa_nil))))))) (fun a pn => (pss_one (ps_ret (pe_fnH c__law_alone (roomN_mark (hr.mono (by decide))) (by rfl) (pa_cons (pv 5) pa_nil))))))), ?rd⟩)
  case len => obtain ⟨b, dx, d, e, rs, ws, ss, way, v, z, y, rfl, _⟩ := h; rfl
  case rd =>
    obtain ⟨b, dx, d, e, rs, ws, ss, way, v, z, y, rfl, B, hl, hl2, hw, th, tz, ty, q⟩ := h
    rcases hw with rfl | rfl | rfl
    · rw [dueL_0] at q
      walk_at "w3"
      refine ⟨recv B.ob, _, _, _, _, _, _, _, _, _, rfl, B, by omega, tz, ty, ?_⟩
      cases e1 : placeW z with
      | none =>
        rw [e1] at q
        refine T.caught (by decide +kernel) (by decide +kernel) (by decide +kernel) fun a ha => ?_
        walk_at "w3"
        exact ⟨a, "NoPlace", "place", rfl, upd_same, by decide +kernel, q _ _ (B.same (same_new ha)) fun c o _ _ e => same_new ha _ _ e⟩
      | some a =>
        rw [e1] at q
        cases e2 : numW y with
        | none =>
          rw [e2] at q
          refine T.caught (by decide +kernel) (by decide +kernel) (by decide +kernel) fun a ha => ?_
          walk_at "w3"
          exact ⟨a, "BadNumber", "number", rfl, upd_same, by decide +kernel, q _ _ (B.same (same_new ha)) fun c o _ _ e => same_new ha _ _ e⟩
        | some n =>
          rw [e2] at q
          exact fun H' rs' B' k => q H' rs' B' fun c o h1 _ e => k c o h1 e
    · rw [dueL_1] at q
      walk_at "w3"
      refine ⟨recv B.ob, _, _, _, _, _, _, _, _, _, rfl, B, th, tz, ?_⟩
      cases e1 : tickOf ws v with
      | none =>
        rw [e1] at q
        refine T.caught (by decide +kernel) (by decide +kernel) (by decide +kernel) fun a ha => ?_
        walk_at "w3"
        exact ⟨a, "NoName", "name", rfl, upd_same, by decide +kernel, q _ _ (B.same (same_new ha)) fun c o _ _ e => same_new ha _ _ e⟩
      | some t =>
        obtain ⟨i, a, n⟩ := t
        rw [e1] at q
        cases e2 : placeW z with
        | none =>
          rw [e2] at q
          refine T.caught (by decide +kernel) (by decide +kernel) (by decide +kernel) fun a ha => ?_
          walk_at "w3"
          exact ⟨a, "NoPlace", "place", rfl, upd_same, by decide +kernel, q _ _ (B.same (same_new ha)) fun c o _ _ e => same_new ha _ _ e⟩
        | some a' =>
          rw [e2] at q
          exact fun H' rs' B' k => q H' rs' B' fun c o h1 _ e => k c o h1 e
    · rw [dueL_2] at q
      walk_at "w3"
      refine ⟨recv B.ob, _, _, _, _, _, _, _, _, rfl, B, by omega, th, ?_⟩
      cases e1 : tickOf ws v with
      | none =>
        rw [e1] at q
        refine T.caught (by decide +kernel) (by decide +kernel) (by decide +kernel) fun a ha => ?_
        walk_at "w3"
        exact ⟨a, "NoName", "name", rfl, upd_same, by decide +kernel, q _ _ (B.same (same_new ha)) fun c o _ _ e => same_new ha _ _ e⟩
      | some t =>
        obtain ⟨i, a, n⟩ := t
        rw [e1] at q
        exact fun H' rs' B' k => q H' rs' B' fun c o h1 h2 e => k c o h1 h2 e
theorem f__law_place (T : Tx K mg) : Fn P w K mg base 2 "_law_place" ["_law_script", "_law_more"] (sp_lplace K) := by
  have c__law_draw := f__law_draw (P := P) (w := w) (base := base) T
  refine T.mkFn 16 24 (d := d__law_place) (N := ["_law_script", "_law_more"]) (k := 1) rfl rfl rfl rfl rfl sc__law_place (fun _ _ _ _ _ _ us hl => match us, hl with | [_, _], _ => rfl) (fun vs H Q E h => ?len) (fun cdv A outer s H vs Q E hr h => ⟨_,
      (pss_cons (ps_if (pt_cmpR (op_eqK (K := K) rfl hr.units) (pe_op op_mod (pv 1) pe_int) pe_int (nomark _)) (pss_one (ps_ret (pe_menu (pa_cons (pe_un un_neg pe_int) (pa_cons pe_int (pa_cons pe_bl (pa_cons pe_bl (pa_cons pe_non (pa_cons pe_str (pa_cons (pe_lst (pa_cons pe_int pa_nil)) (pa_cons pe_int (pa_cons pe_int pa_nil))))))))) (pe_op op_mod (pe_op op_fdiv (pv 1) pe_int) pe_int) (fun _ _ => rfl)))) pss_nil)
        (pss_one (ps_ret (pe_op op_mod (pe_op op_gAdd (pv 1) (pe_fn (takes_of rfl rfl rfl rfl) c__law_draw (hr.mono (by decide)) (by rfl) (pa_cons (pv 0) (pa_cons pe_int pa_nil)))) pe_int)))), ?rd⟩)
  case len => obtain ⟨a, c, ns, rfl, _⟩ := h; rfl
  case rd =>
    obtain ⟨a, c, ns, rfl, hS, q⟩ := h
    walk_at "w3"
    split
    · refine ⟨by rw [sizeLine_eq]; omega, fun p hp => ⟨by rw [sizeLine_eq]; omega, menu_pick (Thing (upd H p (.lst [.int 1]))) ?_ fun v tv => q v _ (same_new hp) tv⟩⟩
      have cs : c / 7 % 9 = 0 ∨ c / 7 % 9 = 1 ∨ c / 7 % 9 = 2 ∨ c / 7 % 9 = 3 ∨ c / 7 % 9 = 4 ∨ c / 7 % 9 = 5 ∨ c / 7 % 9 = 6 ∨ c / 7 % 9 = 7 ∨ c / 7 % 9 = 8 := by omega
      rcases cs with e | e | e | e | e | e | e | e | e <;> rw [e] <;> refine ⟨_, rfl, ?_⟩
      · exact .inl ⟨_, rfl⟩
      · exact .inl ⟨_, rfl⟩
      · exact .inr odd_bl
      · exact .inr odd_bl
      · exact .inr odd_non
      · exact .inr odd_str
      · exact .inr (odd_lst upd_same)
      · exact .inl ⟨_, rfl⟩
      · exact .inl ⟨_, rfl⟩
    · (repeat (first | (refine And.intro (by omega) ?_; walk_at "w3") | refine ⟨_, _, ns, rfl, hS, by omega, ?_⟩; walk_at "w3"))
      exact q _ _ (Same.refl _) (.inl ⟨_, rfl⟩)
theorem f__law_number (T : Tx K mg) : Fn P w K mg base 1 "_law_number" ["_law_more"] (sp_lnumber K) := by
  refine T.mkFn 17 25 (d := d__law_number) (N := ["_law_more"]) (k := 0) rfl rfl rfl rfl rfl sc__law_number (fun _ _ _ _ _ _ us hl => match us, hl with | [_], _ => rfl) (fun vs H Q E h => ?len) (fun cdv A outer s H vs Q E hr h => ⟨_,
      (pss_cons (ps_if (pt_cmpR (op_eqK (K := K) rfl hr.units) (pe_op op_mod (pv 0) pe_int) pe_int (nomark _)) (pss_one (ps_ret (pe_menu (pa_cons (pe_op op_gAdd (pe_op op_pow pe_int pe_int) pe_int) (pa_cons (pe_op op_sub (pe_un un_neg (pe_op op_pow pe_int pe_int)) pe_int) (pa_cons pe_bl (pa_cons pe_bl (pa_cons pe_non (pa_cons pe_str (pa_cons (pe_lst (pa_cons pe_int pa_nil)) (pa_cons (pe_op op_pow pe_int pe_int) (pa_cons (pe_un un_neg (pe_op op_pow pe_int pe_int)) pa_nil))))))))) (pe_op op_mod (pe_op op_fdiv (pv 0) pe_int) pe_int) (fun _ _ => rfl)))) pss_nil)
        (pss_one (ps_ret (pe_op op_sub (pe_op op_mod (pv 0) pe_int) (pe_op op_pow pe_int pe_int))))), ?rd⟩)
  case len => obtain ⟨c, rfl, _⟩ := h; rfl
  case rd =>
    obtain ⟨c, rfl, q⟩ := h
    walk_at "w3"
    split
    · refine ⟨by rw [sizeLine_eq]; omega, fun p hp => ⟨by rw [sizeLine_eq]; omega, menu_pick (Thing (upd H p (.lst [.int 1]))) ?_ fun v tv => q v _ (same_new hp) tv⟩⟩
      have cs : c / 7 % 9 = 0 ∨ c / 7 % 9 = 1 ∨ c / 7 % 9 = 2 ∨ c / 7 % 9 = 3 ∨ c / 7 % 9 = 4 ∨ c / 7 % 9 = 5 ∨ c / 7 % 9 = 6 ∨ c / 7 % 9 = 7 ∨ c / 7 % 9 = 8 := by omega
      rcases cs with e | e | e | e | e | e | e | e | e <;> rw [e] <;> refine ⟨_, rfl, ?_⟩
      · exact .inl ⟨_, rfl⟩
      · exact .inl ⟨_, rfl⟩
      · exact .inr odd_bl
      · exact .inr odd_bl
      · exact .inr odd_non
      · exact .inr odd_str
      · exact .inr (odd_lst upd_same)
      · exact .inl ⟨_, rfl⟩
      · exact .inl ⟨_, rfl⟩
    · exact q _ _ (Same.refl _) (.inl ⟨_, rfl⟩)
theorem f__law_due (T : Tx K mg) : Fn P w K mg base 2 "_law_due" ["_law_waits", "_law_way", "_law_ticket", "_law_place_here", "_law_number_here"] (sp_due K) := by
  have c__law_is_number := f__law_is_number (P := P) (w := w) (base := base) T
  refine T.mkFn 14 22 (d := d__law_due) (N := ["_law_waits", "_law_way", "_law_ticket", "_law_place_here", "_law_number_here", "_law_good_place"]) (k := 1) rfl rfl rfl rfl rfl sc__law_due (fun _ _ _ _ _ _ us hl => match us, hl with | [_, _, _, _, _], _ => rfl) (fun vs H Q E h => ?len) (fun cdv A outer s H vs Q E hr h => ⟨_,
      (pss_cut (ps_set (i := 5) sc__law_due.nd rfl (Or.inl rfl) (pe_and (pe_fn (takes_of rfl rfl rfl rfl) c__law_is_number (hr.mono (by decide)) (by rfl) (pa_cons (pv 3) pa_nil)) (pe_one (pe_chain op_le op_lt pe_int (pv 3) pe_int))))
        (pss_cons (ps_if (pt_cmpR (op_eqK (K := K) rfl hr.units) (pv 1) pe_int (nomark _)) (pss_cons (ps_if (pt_not (pt_val (pv 5))) (pss_one (ps_ret pe_str)) pss_nil)
        (pss_cons (ps_if (PW.pt (pw_or (pt_not (pt_val (pe_fn (takes_of rfl rfl rfl rfl) c__law_is_number (hr.mono (by decide)) (by rfl) (pa_cons (pv 4) pa_nil)))) (pw_or1 (pt_cmpR op_gt (pe_callB call_gAbs (by rfl) (T.free 31) (by decide +kernel) (pa_cons (pv 4) pa_nil)) (pe_op op_pow pe_int pe_int) (nomark _))))) (pss_one (ps_ret pe_str)) pss_nil)
        (pss_one (ps_ret (pe_callB (call_lenK (K := K) rfl) (by rfl) (T.free 30) PySem.boot_len (pa_cons (pv 0) pa_nil)))))) pss_nil)
        (pss_cons (ps_if (PW.pt (pw_or (pt_not (pt_val (pe_fn (takes_of rfl rfl rfl rfl) c__law_is_number (hr.mono (by decide)) (by rfl) (pa_cons (pv 2) pa_nil)))) (pw_or (pt_not (pt_chain op_le op_lt pe_int (pv 2) (pe_callB (call_lenK (K := K) rfl) (by rfl) (T.free 30) PySem.boot_len (pa_cons (pv 0) pa_nil)))) (pw_or1 (pt_cmpR op_isN (pe_ix (ix_seqK (K := K) rfl) (pv 0) (pv 2) (fun _ _ => rfl)) pe_non (nomark _)))))) (pss_one (ps_ret pe_str)) pss_nil)
        (pss_cons (ps_if (PW.pt (pw_and (pt_cmpR (op_eqK (K := K) rfl hr.units) (pv 1) pe_int (nomark _)) (pw_and1 (pt_not (pt_val (pv 5)))))) (pss_one (ps_ret pe_str)) pss_nil)
        (pss_one (ps_ret pe_non)))))), ?rd⟩)
  case len => obtain ⟨l, rs, ws, ss, way, v, z, y, rfl, _⟩ := h; rfl
  case rd =>
    obtain ⟨l, rs, ws, ss, way, v, z, y, rfl, hl, wt, hw, th, tz, ty, q⟩ := h
    have ll := wt.len
    walk_at "w3"
    refine ⟨fun σ H' => σ = [some (.ref l), some (.int way), some v, some z, some y, some (.bl (placeW z).isSome)] ∧ H' = H, ?_, ?_⟩
    · rcases tz with ⟨n, rfl⟩ | o
      · walk_at "w3"
        rw [placeW_int]
        split
        · by_cases c : n < 10000
          · rw [decide_eq_true c, if_pos (by omega)]
            rfl
          · rw [decide_eq_false c, if_neg (by omega)]
            rfl
        · rw [if_neg (by omega)]
          rfl
      · rw [odd_isnum o, placeW_odd o]
        walk_at "w3"
        rfl
    rintro σ H' ⟨rfl, rfl⟩
    walk_at "w3"
    split
    · rename_i c
      subst c
      rw [dueL_0] at q
      cases e : placeW z with
      | none =>
        rw [e] at q
        exact q
      | some a =>
        rw [e] at q
        rw [if_neg (by intro z; cases z)]
        rcases ty with ⟨n, rfl⟩ | o
        · walk_at "w3"
          rw [numW_int] at q
          split
          · rw [if_neg (by omega)] at q
            exact q
          · rw [if_pos (by omega)] at q
            refine r_lenL hl ?_
            rw [ll]
            exact q
        · rw [odd_isnum o]
          rw [numW_odd o] at q
          walk_at "w3"
          exact q
    rename_i c0
    have hw2 : way = 1 ∨ way = 2 := by omega
    rcases th with ⟨n, rfl⟩ | o
    · walk_at "w3"
      split
      · rename_i c1
        obtain ⟨i, rfl⟩ := Int.eq_ofNat_of_zero_le c1
        refine r_lenL hl ?_
        walk_at "w3"
        split
        · rw [tick_kind hw2 (tick_off (by rw [placeOf_int, if_neg (by omega)]))] at q
          exact q
        · have hi : i < ws.length := by omega
          have ei := getD_at (d := none) hi
          cases ew : ws.getD i none with
          | none =>
            rw [ew] at ei
            refine r_ixL hl (wt.non i ei) ?_
            rw [if_pos rfl]
            rw [tick_kind hw2 (by rw [tick_int hi, ew])] at q
            exact q
          | some t =>
            obtain ⟨a, m⟩ := t
            rw [ew] at ei
            obtain ⟨tp, e1, e2⟩ := wt.pair i a m ei
            have et : tickOf ws (.int i) = some (i, a, m) := by rw [tick_int hi, ew]
            refine r_ixL hl e1 ?_
            rw [if_neg (by intro z; cases z)]
            rcases hw2 with rfl | rfl
            · rw [dueL_1, et] at q
              rw [if_pos rfl]
              cases e : placeW z with
              | none =>
                rw [e] at q
                exact q
              | some a =>
                rw [e] at q
                rw [if_neg (by intro z; cases z)]
                exact q
            · rw [dueL_2, et] at q
              rw [if_neg (by decide)]
              exact q
      · rw [tick_kind hw2 (tick_off (by rw [placeOf_int, if_neg (by omega)]))] at q
        exact q
    · rw [odd_isnum o]
      rw [tick_kind hw2 (tick_off (placeOf_odd o))] at q
      walk_at "w3"
      exact q
theorem f__law_right (T : Tx K mg) : Fn P w K mg base 2 "_law_right" ["_law_lasts", "_law_waits", "_law_spoken"] (sp_right K) := by
  have c_Lasts_pending := f_Lasts_pending (P := P) (w := w) (base := base) T
  have c_Lasts_said := f_Lasts_said (P := P) (w := w) (base := base) T
  have c__law_is_number := f__law_is_number (P := P) (w := w) (base := base) T
  refine T.mkFn 15 23 (d := d__law_right) (N := ["_law_lasts", "_law_waits", "_law_spoken", "_law_due_here", "_law_ticket", "_law_found", "_law_said", "_law_one", "_law_part"]) (k := 1) rfl rfl rfl rfl rfl sc__law_right (fun _ _ _ _ _ _ us hl => match us, hl with | [_, _, _], _ => rfl) (fun vs H Q E h => ?len) (fun cdv A outer s H vs Q E hr h => ⟨_,
      (pss_cons (ps_setLc (i := 3) (own := [("_law_ticket", 4)]) (g := gName 4) rfl sc__law_right.nd rfl rfl (sw_true rfl rfl rfl (by decide +kernel)) (pi_range1 rfl (T.free 32) (pa_cons (pe_callB (call_lenK (K := K) rfl) (by rfl) (T.free 30) PySem.boot_len (pa_cons (pv 1) pa_nil)) pa_nil)) (blkOk_by (own := [("_law_ticket", 4)]) (N := ["_law_lasts", "_law_waits", "_law_spoken", "_law_due_here", "_law_ticket", "_law_found", "_law_said", "_law_one", "_law_part"]) (sc := defScope s__law_right) (by decide +kernel)) (fun _ _ _ _ _ => (pg_name (i := 4) sc__law_right.nd rfl (Or.inl rfl))) (fun _ _ _ _ _ => pts_one (pt_cmpR op_notN (pe_ix (ix_seqK (K := K) rfl) (pv 1) (pv 4) (fun _ _ => rfl)) pe_non (nomark _))) (fun _ _ _ _ _ => (pe_op (op_catTK (K := K) rfl) (pe_tup (pa_cons (pv 4) pa_nil)) (pe_ix (ix_seqK (K := K) rfl) (pv 1) (pv 4) (fun _ _ => rfl)))))
        (pss_cons (ps_set (i := 5) sc__law_right.nd rfl (Or.inl rfl) (pe_mt0 (K := K) rfl (takes_of rfl rfl rfl rfl) (pv 0) c_Lasts_pending (hr.mono (by decide))))
        (pss_cons (ps_set (i := 6) sc__law_right.nd rfl (Or.inl rfl) (pe_mt0 (K := K) rfl (takes_of rfl rfl rfl rfl) (pv 0) c_Lasts_said (hr.mono (by decide))))
        (pss_cons (ps_if (PW.pt (pw_or (pt_not (pt_val (pe_callB call_gIsi (by rfl) (T.free 29) (by decide +kernel) (pa_cons (pv 5) (pa_cons (pe_ty (T := "list") (T.free 37) (by decide +kernel) (by rfl)) pa_nil))))) (pw_or (pt_not (pt_val (pe_callB call_gIsi (by rfl) (T.free 29) (by decide +kernel) (pa_cons (pv 6) (pa_cons (pe_ty (T := "list") (T.free 37) (by decide +kernel) (by rfl)) pa_nil))))) (pw_or (pt_cmpR (op_neK (K := K) rfl hr.units) (pv 5) (pv 3) (nomark _)) (pw_or1 (pt_cmpR (op_neK (K := K) rfl hr.units) (pv 6) (pv 2) (nomark _))))))) (pss_one (ps_ret pe_bl)) pss_nil)
        (pss_cons (ps_for (passes_of rfl) rfl (pi_listK (K := K) rfl (pv 5)) (pg_name (i := 7) sc__law_right.nd rfl (Or.inl rfl)) (pss_one (ps_if (PW.pt (pw_or (pt_not (pt_val (pe_callB call_gIsi (by rfl) (T.free 29) (by decide +kernel) (pa_cons (pv 7) (pa_cons (pe_ty (T := "tuple") (T.free 38) (by decide +kernel) (by rfl)) pa_nil))))) (pw_or1 (pt_not (pt_val (pe_callB (call_allK (K := K) rfl rfl) (by rfl) (T.free 34) (by decide +kernel) (pa_cons (pe_lc (own := [("_law_part", 8)]) (g := gName 8) rfl sc__law_right.nd (pi_tup (pv 7)) (blkOk_by (own := [("_law_part", 8)]) (N := ["_law_lasts", "_law_waits", "_law_spoken", "_law_due_here", "_law_ticket", "_law_found", "_law_said", "_law_one", "_law_part"]) (sc := defScope s__law_right) (by decide +kernel)) (fun _ _ _ _ _ => (pg_name (i := 8) sc__law_right.nd rfl (Or.inl rfl))) (fun _ _ _ _ _ => pts_nil) (fun _ _ _ _ _ => (pe_fn takes0 c__law_is_number (hr.mono (by decide)) (by rfl) (pa_cons (pv 8) pa_nil)))) pa_nil))))))) (pss_one (ps_ret pe_bl)) pss_nil)))
        (pss_cons (ps_if (pt_not (pt_val (pe_callB (call_allK (K := K) rfl rfl) (by rfl) (T.free 34) (by decide +kernel) (pa_cons (pe_lc (own := [("_law_one", 7)]) (g := gName 7) rfl sc__law_right.nd (pi_listK (K := K) rfl (pv 6)) (blkOk_by (own := [("_law_one", 7)]) (N := ["_law_lasts", "_law_waits", "_law_spoken", "_law_due_here", "_law_ticket", "_law_found", "_law_said", "_law_one", "_law_part"]) (sc := defScope s__law_right) (by decide +kernel)) (fun _ _ _ _ _ => (pg_name (i := 7) sc__law_right.nd rfl (Or.inl rfl))) (fun _ _ _ _ _ => pts_nil) (fun _ _ _ _ _ => (pe_fn takes0 c__law_is_number (hr.mono (by decide)) (by rfl) (pa_cons (pv 7) pa_nil)))) pa_nil)))) (pss_one (ps_ret pe_bl)) pss_nil)
        (pss_cons (ps_expr (pe_bm PySem.F.plainAttrs_list PySem.F.slot_list_append PySem.F.type_list_append mt_append (pv 5) (pa_cons (pe_tup (pa_cons pe_int (pa_cons pe_int (pa_cons pe_int pa_nil)))) pa_nil)))
        (pss_cons (ps_expr (pe_bm PySem.F.plainAttrs_list PySem.F.slot_list_append PySem.F.type_list_append mt_append (pv 6) (pa_cons pe_int pa_nil)))
        (pss_one (ps_ret (pe_and (pe_cmpR (op_eqK (K := K) rfl hr.units) (pe_mt0 (K := K) rfl (takes_of rfl rfl rfl rfl) (pv 0) c_Lasts_pending (hr.mono (by decide))) (pv 3) (nomark _)) (pe_one (pe_cmpR (op_eqK (K := K) rfl hr.units) (pe_mt0 (K := K) rfl (takes_of rfl rfl rfl rfl) (pv 0) c_Lasts_said (hr.mono (by decide))) (pv 2) (nomark _)))))))))))))), ?rd⟩)
  case len => obtain ⟨b, dx, d, e, rs, ws, ss, l, m, rs', rfl, _⟩ := h; rfl
  case rd =>
    obtain ⟨b, dx, d, e, rs, ws, ss, l, m, rs', rfl, B, hl, wt, hm, hn, hn2, q⟩ := h
    walk_at "w3"
    have ll := wt.len
    refine r_lenL hl ?_
    walk_at "w3"
    rw [Int.toNat_natCast]
    refine ⟨by omega, by omega, fun D hD => lc_range (fun i H' => ∃ qs, Same H H' ∧ H' D = some (.lst qs) ∧ TupAll H' qs (pendOf 0 (ws.take i))) ⟨[], same_new hD, upd_same, .nil⟩ ?_ ?_⟩
    · rintro i H' hi ⟨qs, s, hd, t⟩
      simp only [Int.zero_add]
      walk_at "w3"
      have hi' : i < ws.length := by omega
      have ei := getD_at (d := none) hi'
      have ez : ws.take (i + 1) = ws.take i ++ [ws.getD i none] := by rw [List.take_add_one, ei]; rfl
      have el : (ws.take i).length = i := by rw [List.length_take]; omega
      have pl := pendOf_len (ws := ws.take i) 0
      have tl := t.len
      have hl' := s _ _ hl
      rw [ez, pendOf_snoc, Nat.zero_add, el]
      cases ew : ws.getD i none with
      | none =>
        rw [ew] at ei
        refine r_ixL hl' (wt.non i ei) ?_
        walk_at "w3"
        show ∃ qs, Same H H' ∧ H' D = some (.lst qs) ∧ TupAll H' qs (pendOf 0 (ws.take i) ++ [])
        rw [List.append_nil]
        exact ⟨qs, s, hd, t⟩
      | some p =>
        obtain ⟨a, n⟩ := p
        rw [ew] at ei
        obtain ⟨tp, e3, e4⟩ := wt.pair i a n ei
        refine r_ixL hl' e3 ?_
        rw [if_pos (by intro z; cases z)]
        refine ⟨by rw [sizeLine_eq]; omega, fun p1 hp1 => ?_⟩
        have s1 := same_new (o := .tup [.int (i : Nat)]) hp1
        refine r_ixL (s1 _ _ hl') e3 (r_cat upd_same ((s.trans s1) _ _ e4) (by intro z; cases z) (by intro z; cases z) (by rw [sizeLine_eq]; show 1 + 2 ≤ 16777216; omega) fun p2 hp2 => ?_)
        have s2 := same_new (o := .tup ([.int (i : Nat)] ++ [.int a, .int n])) hp2
        have hd2 := (s1.trans s2) _ _ hd
        have nD : p2 ≠ D := (ne_of_none (s1 _ _ hd) hp2).symm
        refine ⟨qs, hd2, by rw [sizeLine_eq]; omega, _, ?_, upd_same, ?_⟩
        · exact fun c o g => by rw [upd_ne (ne_of_none g hD)]; exact (s.trans (s1.trans s2)) _ _ g
        · refine ((t.same (s1.trans s2)).put hd2 (by intro xs z; cases z)).snoc (by rw [upd_ne nD]; exact upd_same) fun x hx => ?_
          rcases List.mem_cons.mp hx with rfl | hx
          · rfl
          rcases List.mem_cons.mp hx with rfl | hx
          · rfl
          · rw [List.mem_singleton] at hx
            subst hx
            rfl
    rintro H1 ⟨qs, s1, hd1, t1⟩
    rw [ll, List.take_length] at t1
    have B1 := B.same s1
    refine ⟨recv B1.ob, _, _, _, _, _, _, _, rfl, B1, by omega, fun p ps H2 hp s2 h2 t2 => ?_⟩
    walk_at "w3"
    have B2 := B1.same s2
    refine ⟨recv B2.ob, _, _, _, _, _, _, _, rfl, B2, fun p3 hp3 => ?_⟩
    have s3 := same_new (o := .lst (ss.map V.int)) hp3
    walk_at "w3"
    have h2' := s3 _ _ h2
    refine r_isiL h2' ?_
    walk_at "w3"
    refine r_isiL upd_same ?_
    walk_at "w3"
    have fI : ∀ x ∈ ss.map V.int, flatI x = true := fun x h => by
      obtain ⟨i, -, e⟩ := List.mem_map.mp h
      subst e
      rfl
    have hm3 := (s1.trans (s2.trans s3)) _ _ hm
    refine r_neSame (dp_tups h2' (t2.same s3)) (dp_tups ((s2.trans s3) _ _ hd1) (t1.same (s2.trans s3))) sh_tups ?_
    walk_at "w3"
    refine r_neSame (dp_flat upd_same fI) (dp_flat hm3 fI) sh_flat ?_
    walk_at "w3"
    generalize eH3 : upd H2 p3 (.lst (ss.map V.int)) = H3 at h2' hm3 s3
    have h3 : H3 p3 = some (.lst (ss.map V.int)) := by rw [← eH3]; exact upd_same
    have t3 := t2.same s3
    refine ⟨⟨_, .of h2'⟩, forW_list (xs := ps) (fun i σ H' => ∃ o7 o8, σ = [some (.ref b), some (.ref l), some (.ref m), some (.ref D), none, some (.ref p), some (.ref p3), o7, o8] ∧ Same H3 H') ⟨_, _, rfl, Same.refl _⟩ ?_ ?_ ?_⟩
    · rintro i σ H' _ ⟨o7, o8, rfl, s⟩
      exact .of (s _ _ h2')
    · rintro i x σ H' hx ⟨o7, o8, rfl, s⟩
      obtain ⟨tp, xs, rfl, ht, mm⟩ := t3.mem _ (List.mem_of_getElem? hx)
      obtain ⟨k, a, n, rfl⟩ := pendOf_mem 0 _ mm
      have ht' := s _ _ ht
      walk_at "w3"
      refine r_isiT ht' ?_
      walk_at "w3"
      refine ⟨⟨_, .inl (.inl ht')⟩, fun D2 hD2 => lc_tup (xs := [.int k, .int a, .int n]) (fun i H => i ≤ 3 ∧ H = upd H' D2 (.lst (List.replicate i (.bl true)))) ⟨by omega, rfl⟩ (fun i H _ e => ?_) (fun i x H hx e => ?_) fun H e => ?_⟩
      · rw [e.2]
        exact .inl (.inl ((same_new hD2) _ _ ht'))
      · rw [e.2]
        have hi3 := (List.getElem?_eq_some_iff.mp hx).1
        have hi3 : i < 3 := hi3
        obtain ⟨w, rfl⟩ : ∃ w, x = .int w := by
          have := List.mem_of_getElem? hx
          simp only [List.mem_cons, List.not_mem_nil, or_false] at this
          rcases this with rfl | rfl | rfl <;> exact ⟨_, rfl⟩
        walk_at "w3"
        refine ⟨_, upd_same, by rw [List.length_replicate, sizeLine_eq]; omega, by omega, ?_⟩
        rw [upd_upd, ← List.replicate_succ, List.replicate_succ']
      · rw [e.2]
        refine ⟨D2, List.replicate 3 true, rfl, .of (by rw [List.map_replicate]; exact upd_same), ?_⟩
        rw [all_rep]
        walk_at "w3"
        exact ⟨_, _, rfl, s.trans (same_new hD2)⟩
    · rintro σ H' ⟨o7, o8, rfl, s⟩
      walk_at "w3"
      have hs' := s _ _ h3
      refine ⟨⟨_, .of hs'⟩, fun D2 hD2 => lc_list (xs := ss.map V.int) (fun i H => i ≤ ss.length ∧ H = upd H' D2 (.lst (List.replicate i (.bl true)))) ⟨by omega, rfl⟩ (fun i H _ e => ?_) (fun i x H hx e => ?_) fun H e => ?_⟩
      · rw [e.2]
        exact .of ((same_new hD2) _ _ hs')
      · rw [e.2]
        have hi3 := (List.getElem?_eq_some_iff.mp hx).1
        rw [List.length_map] at hi3
        obtain ⟨w, rfl⟩ : ∃ w, x = .int w := by
          obtain ⟨w, -, e⟩ := List.mem_map.mp (List.mem_of_getElem? hx)
          exact ⟨w, e.symm⟩
        walk_at "w3"
        refine ⟨_, upd_same, by rw [List.length_replicate, sizeLine_eq]; omega, by omega, ?_⟩
        rw [upd_upd, ← List.replicate_succ, List.replicate_succ']
      · rw [e.2, List.length_map]
        refine ⟨D2, List.replicate ss.length true, rfl, .of (by rw [List.map_replicate]; exact upd_same), ?_⟩
        rw [all_rep]
        have sd2 : Same H' (upd H' D2 (.lst (List.replicate ss.length (.bl true)))) := same_new hD2
        generalize upd H' D2 (.lst (List.replicate ss.length (.bl true))) = H5 at sd2
        walk_at "w3"
        have s5 := s.trans sd2
        have tl := t2.len
        have pl := pendOf_len (ws := ws) 0
        refine ⟨ty_lst (s5 _ _ h2'), by rw [sizeLine_eq]; omega, fun p6 hp6 => ?_⟩
        have s6 := same_new (o := .tup [.int 0, .int 0, .int 0]) hp6
        refine ⟨p, _, _, rfl, rfl, (s5.trans s6) _ _ h2', by rw [sizeLine_eq]; omega, ?_⟩
        have p3p : p3 ≠ p := (ne_of_none h2 hp3).symm
        have h6 : upd (upd H5 p6 (.tup [.int 0, .int 0, .int 0])) p (.lst (ps ++ [.ref p6])) p3 = some (.lst (ss.map V.int)) := by rw [upd_ne p3p]; exact (s5.trans s6) _ _ h3
        refine r_app h6 (by rw [List.length_map, sizeLine_eq]; omega) ?_
        have s9 : Same H1 (upd (upd (upd H5 p6 (.tup [.int 0, .int 0, .int 0])) p (.lst (ps ++ [.ref p6]))) p3 (.lst (ss.map V.int ++ [.int 0]))) := fun c o g => by
          rw [upd_ne (ne_of_none g (none_of s2 hp3)), upd_ne (ne_of_none g hp)]
          exact (s5.trans s6) _ _ (s3 _ _ (s2 _ _ g))
        generalize upd (upd (upd H5 p6 (.tup [.int 0, .int 0, .int 0])) p (.lst (ps ++ [.ref p6]))) p3 (.lst (ss.map V.int ++ [.int 0])) = H9 at s9
        walk_at "w3"
        have B9 := B1.same s9
        refine ⟨recv B9.ob, _, _, _, _, _, _, _, rfl, B9, by omega, fun p10 ps10 H10 hp10 s10 h10 t10 => ?_⟩
        have s19 := s9.trans s10
        refine r_eqSame (dp_tups h10 t10) (dp_tups (s19 _ _ hd1) (t1.same s19)) sh_tups ?_
        walk_at "w3"
        have B10 := B9.same s10
        refine ⟨recv B10.ob, _, _, _, _, _, _, _, rfl, B10, fun p11 hp11 => ?_⟩
        have s11 := same_new (o := .lst (ss.map V.int)) hp11
        refine r_eqSame (dp_flat upd_same fI) (dp_flat ((s1.trans (s19.trans s11)) _ _ hm) fI) sh_flat ?_
        exact q _ (s1.trans (s19.trans s11))
end

local macro_rules | `(tactic| walk_at "w3") => `(tactic| try simp only [↓x_var0, ↓x_varS, ↓x_c, ↓x_op, ↓x_un, ↓x_cb, ↓x_nil, ↓x_cons, ↓x_test, ↓x_b, ↓x_ex, ↓x_and, ↓x_or, ↓x_not, ↓x_andV, ↓x_orV, ↓x_notV, ↓x_tif, ↓x_chain, ↓x_menu, ↓x_menuI, ↓x_lst, ↓x_tup, ↓x_dnew, ↓x_callW, ↓x_callN, ↓x_seq, ↓x_next, ↓x_ret, ↓x_retN, ↓x_drop, ↓x_ifS, ↓x_asg, ↓x_name, ↓x_raise, ↓x_fld, ↓x_setF, ↓x_meth, ↓x_make, ↓x_sub, ↓r_min, ↓r_max, ↓x_yes, ↓x_for, ↓x_cut, ↓x_lc, ↓x_rng1, ↓x_rng2, ↓x_lst1, ↓x_itup, ↓x_rng3, ↓x_three, ↓x_lstg, ↓x_tupg, ↓x_adrS, ↓x_one, ↓x_two, ↓x_adr, ↓x_sl, ↓x_np, ↓x_pt, ↓x_int, ↓x_bm, ↓x_bm0, ↓x_consg, ↓x_nilg, ↓x_dget2, ↓x_dget1, ↓x_dget, ↓x_din, ↓x_dni, ↓x_dput, ↓x_dpop2, ↓r_isB, ↓r_notB, ↓x_enum, wipe, List.map_cons, List.map_nil, ↓x_isT, ↓r_isiII, ↓r_isiBB, ↓r_isiIB, ↓r_isiSS, ↓r_neNS, ↓r_neSN, ↓r_neNN, ↓r_eqNS, ↓r_eqSN, ↓r_eqNN, ↓r_eqIS, ↓r_neIS, ↓r_neSI, ↓r_neBS, ↓r_eqBB, ↓r_neBB, ↓x_start, ↓x_K, ↓x_start0, ↓r_i0, ↓r_i, ↓r_u, ↓r_addI, ↓r_addS, ↓r_mulI, ↓r_mulS, ↓r_eqI, ↓r_neI, ↓r_eqS, ↓r_neS, ↓r_absI, ↓r_intI, ↓r_intB, List.length_cons, List.length_nil, List.replicate, List.set_cons_zero, List.set_cons_succ, decide_eq_true_eq, Bool.not_eq_true', decide_eq_false_iff_not, if_true, if_false, Bool.false_eq_true, Bool.true_eq_false, ite_true, ite_false, Bool.not_true, Bool.not_false, c_div, n_ten, c_pow, not_true_eq_false, not_false_eq_true, decide_true, decide_false, true_and, and_true, and_self, true_or, or_true, Int.reduceLT, Int.reduceLE, Int.reduceMul, Int.reduceAdd, Int.reduceSub, Int.reducePow, Int.reduceNeg, Int.reduceDiv, Int.reduceMod, Nat.reducePow, Int.reduceToNat, Int.reduceEq, Int.reduceNe, Nat.reduceLT, Nat.reduceLeDiff, Nat.reduceAdd, ↓x_whole, ↓x_kind, ↓x_isnum])
/-! ## the law -/
structure A10 where
  b : Nat → Addr
  dx : Nat → Addr
  d : Nat → Addr
  e : Nat → Addr
  l : Nat → Addr
  m : Nat → Addr
  bq : Addr
  wr : Addr
  sr : Addr
  hl : Addr
  q : Addr
  cs : List Int
def All10 (A : A10) : List Addr := [A.q, A.hl, A.sr, A.m 1, A.m 0, A.wr, A.l 1, A.l 0, A.bq, A.e 1, A.d 1, A.e 0, A.d 0]
def M10 (A : A10) : List Addr := [A.hl, A.m 1, A.m 0, A.l 1, A.l 0, A.e 1, A.d 1, A.e 0, A.d 0]
def K10 (A : A10) (k : Nat) : List Addr := [A.d k, A.e k, A.l k, A.m k]
structure F10 (A : A10) (H0 : Hp) : Prop where
  nd : (All10 A).Nodup
  zn : ∀ m, m ∈ M10 A → H0 m = none
theorem nodup_ix {L : List Addr} (n : L.Nodup) {i j : Nat} {a b : Addr} (hi : L[i]? = some a) (hj : L[j]? = some b) (h : i ≠ j) : a ≠ b := by
  obtain ⟨h1, e1⟩ := List.getElem?_eq_some_iff.mp hi
  obtain ⟨h2, e2⟩ := List.getElem?_eq_some_iff.mp hj
  have p := List.pairwise_iff_getElem.mp n
  rcases Nat.lt_or_gt_of_ne h with l | l
  · rw [← e1, ← e2]
    exact p i j h1 h2 l
  · rw [← e1, ← e2]
    exact (p j i h2 h1 l).symm
theorem M_ix {A : A10} {x : Addr} (h : x ∈ M10 A) : ∃ i : Nat, (i = 1 ∨ i = 3 ∨ i = 4 ∨ i = 6 ∨ i = 7 ∨ i = 9 ∨ i = 10 ∨ i = 11 ∨ i = 12) ∧ (All10 A)[i]? = some x := by
  simp only [M10, List.mem_cons, List.not_mem_nil, or_false] at h
  rcases h with rfl | rfl | rfl | rfl | rfl | rfl | rfl | rfl | rfl
  · exact ⟨1, by omega, rfl⟩
  · exact ⟨3, by omega, rfl⟩
  · exact ⟨4, by omega, rfl⟩
  · exact ⟨6, by omega, rfl⟩
  · exact ⟨7, by omega, rfl⟩
  · exact ⟨9, by omega, rfl⟩
  · exact ⟨10, by omega, rfl⟩
  · exact ⟨11, by omega, rfl⟩
  · exact ⟨12, by omega, rfl⟩
theorem K_ix {A : A10} {k : Nat} (hk : k < 2) {x : Addr} (h : x ∈ K10 A k) : ∃ i : Nat, ((k = 0 ∧ (i = 12 ∨ i = 11 ∨ i = 7 ∨ i = 4)) ∨ (k = 1 ∧ (i = 10 ∨ i = 9 ∨ i = 6 ∨ i = 3))) ∧ (All10 A)[i]? = some x := by
  have c : k = 0 ∨ k = 1 := by omega
  simp only [K10, List.mem_cons, List.not_mem_nil, or_false] at h
  rcases c with rfl | rfl <;> rcases h with rfl | rfl | rfl | rfl
  · exact ⟨12, by omega, rfl⟩
  · exact ⟨11, by omega, rfl⟩
  · exact ⟨7, by omega, rfl⟩
  · exact ⟨4, by omega, rfl⟩
  · exact ⟨10, by omega, rfl⟩
  · exact ⟨9, by omega, rfl⟩
  · exact ⟨6, by omega, rfl⟩
  · exact ⟨3, by omega, rfl⟩
theorem F10.offM {A H0} (F : F10 A H0) {j : Nat} {x : Addr} (e : (All10 A)[j]? = some x) (h : ¬ (j = 1 ∨ j = 3 ∨ j = 4 ∨ j = 6 ∨ j = 7 ∨ j = 9 ∨ j = 10 ∨ j = 11 ∨ j = 12)) : x ∉ M10 A := fun m => by
  obtain ⟨i, hi, ei⟩ := M_ix m
  exact nodup_ix F.nd e ei (by omega) rfl
theorem F10.off {A H0} (F : F10 A H0) : A.bq ∉ M10 A ∧ A.wr ∉ M10 A ∧ A.sr ∉ M10 A ∧ A.q ∉ M10 A :=
  ⟨F.offM (j := 8) rfl (by omega), F.offM (j := 5) rfl (by omega), F.offM (j := 2) rfl (by omega), F.offM (j := 0) rfl (by omega)⟩
theorem F10.sep {A H0} (F : F10 A H0) {j k : Nat} (hj : j < 2) (hk : k < 2) (ne : j ≠ k) : ∀ x ∈ K10 A j, x ∉ K10 A k := fun x h1 h2 => by
  obtain ⟨i, c1, e1⟩ := K_ix hj h1
  obtain ⟨i', c2, e2⟩ := K_ix hk h2
  exact nodup_ix F.nd e1 e2 (by omega) rfl
theorem F10.hl {A H0} (F : F10 A H0) {k : Nat} (hk : k < 2) : A.hl ∉ K10 A k := fun h => by
  obtain ⟨i, c, e⟩ := K_ix hk h
  exact nodup_ix F.nd (i := 1) (j := i) rfl e (by omega) rfl
theorem F10.one {A H0} (F : F10 A H0) {k : Nat} (hk : k < 2) : A.d k ≠ A.l k ∧ A.d k ≠ A.m k ∧ A.e k ≠ A.l k ∧ A.e k ≠ A.m k ∧ A.l k ≠ A.m k := by
  have c : k = 0 ∨ k = 1 := by omega
  rcases c with rfl | rfl
  · exact ⟨nodup_ix F.nd (i := 12) (j := 7) rfl rfl (by decide), nodup_ix F.nd (i := 12) (j := 4) rfl rfl (by decide), nodup_ix F.nd (i := 11) (j := 7) rfl rfl (by decide), nodup_ix F.nd (i := 11) (j := 4) rfl rfl (by decide), nodup_ix F.nd (i := 7) (j := 4) rfl rfl (by decide)⟩
  · exact ⟨nodup_ix F.nd (i := 10) (j := 6) rfl rfl (by decide), nodup_ix F.nd (i := 10) (j := 3) rfl rfl (by decide), nodup_ix F.nd (i := 9) (j := 6) rfl rfl (by decide), nodup_ix F.nd (i := 9) (j := 3) rfl rfl (by decide), nodup_ix F.nd (i := 6) (j := 3) rfl rfl (by decide)⟩
theorem k_in {A : A10} {k : Nat} (h : k < 2) : ∀ x ∈ K10 A k, x ∈ M10 A := by
  have c : k = 0 ∨ k = 1 := by omega
  intro x hx
  simp only [K10, M10, List.mem_cons, List.not_mem_nil, or_false] at hx ⊢
  rcases c with rfl | rfl <;> rcases hx with rfl | rfl | rfl | rfl <;> simp
def Pair10 (A : A10) (H : Hp) (t : V) : Prop := ∃ tp f u f1 f2 u1 u2 ps yss, ∃ zs : List Int, t = .ref tp ∧ H tp = some (.tup [.ref f, .ref u]) ∧ H f = some (.lst [.ref f1, .ref f2]) ∧ H u = some (.lst [.ref u1, .ref u2]) ∧ H f1 = some (.lst ps) ∧ H u1 = some (.lst ps) ∧ TupAll H ps yss ∧
  H f2 = some (.lst (zs.map V.int)) ∧ H u2 = some (.lst (zs.map V.int)) ∧ ∀ c ∈ [f, u, f1, f2, u1, u2], c ∉ M10 A
theorem tupFr {H H' : Hp} {rs : List V} {yss : List (List V)} (h : TupAll H rs yss) (s : ∀ c xs, H c = some (.tup xs) → H' c = some (.tup xs)) : TupAll H' rs yss := by
  induction h with
  | nil => exact .nil
  | cons h f t ih => exact .cons (s _ _ h) f ih
theorem Pair10.fr {A H H' t} (h : Pair10 A H t) (s : ∀ c xs, H c = some (.tup xs) → H' c = some (.tup xs)) (fr : ∀ c o, c ∉ M10 A → H c = some o → H' c = some o) : Pair10 A H' t := by
  obtain ⟨tp, f, u, f1, f2, u1, u2, ps, yss, zs, e, h0, h1, h2, h3, h4, h5, h6, h7, h8⟩ := h
  exact ⟨tp, f, u, f1, f2, u1, u2, ps, yss, zs, e, s _ _ h0, fr _ _ (h8 _ (by simp)) h1, fr _ _ (h8 _ (by simp)) h2, fr _ _ (h8 _ (by simp)) h3, fr _ _ (h8 _ (by simp)) h4, tupFr h5 s, fr _ _ (h8 _ (by simp)) h6, fr _ _ (h8 _ (by simp)) h7, h8⟩
structure I10 (K : PySem.W.Frag) (H0 : Hp) (A : A10) (ws : Nat → Wt) (ss : Nat → List Int) (H : Hp) (n : Nat) (hs : List V) : Prop where
  sm : Same H0 H
  bks : H A.bq = some (.lst [.ref (A.b 0), .ref (A.b 1)])
  wrs : H A.wr = some (.lst [.ref (A.l 0), .ref (A.l 1)])
  srs : H A.sr = some (.lst [.ref (A.m 0), .ref (A.m 1)])
  hls : H A.hl = some (.lst hs)
  prs : ∀ t, t ∈ hs → Pair10 A H t
  lo : ∀ k, k < 2 → ∃ rs, LastO K H (A.b k) (A.dx k) (A.d k) (A.e k) rs (ws k) (ss k)
  wl : ∀ k, k < 2 → ∃ rs, H (A.l k) = some (.lst rs) ∧ WtAll H rs (ws k)
  ml : ∀ k, k < 2 → H (A.m k) = some (.lst ((ss k).map V.int))
  lw : ∀ k, k < 2 → (ws k).length ≤ n ∧ (ss k).length ≤ n
  ct : H A.q = some (.lst (A.cs.map V.int))
theorem I10.same {K H0 A ws ss H n hs H'} (I : I10 K H0 A ws ss H n hs) (s : Same H H') : I10 K H0 A ws ss H' n hs :=
  { I with sm := I.sm.trans s, bks := s _ _ I.bks, wrs := s _ _ I.wrs, srs := s _ _ I.srs, hls := s _ _ I.hls, prs := fun t h => (I.prs t h).fr (fun c xs e => s _ _ e) (fun c o _ e => s _ _ e), lo := fun k h => let ⟨rs, o⟩ := I.lo k h; ⟨rs, o.same s⟩, wl := fun k h => let ⟨rs, e, t⟩ := I.wl k h; ⟨rs, s _ _ e, t.same s⟩, ml := fun k h => s _ _ (I.ml k h), ct := s _ _ I.ct }
theorem I10.lst {K H0 A ws ss H n hs} (I : I10 K H0 A ws ss H n hs) {c : Addr} (m : c ∈ M10 A) : ∃ xs, H c = some (.lst xs) := by
  simp only [M10, List.mem_cons, List.not_mem_nil, or_false] at m
  have h0 : (0 : Nat) < 2 := by decide
  have h1 : (1 : Nat) < 2 := by decide
  rcases m with rfl | rfl | rfl | rfl | rfl | rfl | rfl | rfl | rfl
  · exact ⟨_, I.hls⟩
  · exact ⟨_, I.ml 1 h1⟩
  · exact ⟨_, I.ml 0 h0⟩
  · exact let ⟨rs, e, _⟩ := I.wl 1 h1; ⟨_, e⟩
  · exact let ⟨rs, e, _⟩ := I.wl 0 h0; ⟨_, e⟩
  · exact let ⟨rs, o⟩ := I.lo 1 h1; ⟨_, o.sk⟩
  · exact let ⟨rs, o⟩ := I.lo 1 h1; ⟨_, o.wa⟩
  · exact let ⟨rs, o⟩ := I.lo 0 h0; ⟨_, o.sk⟩
  · exact let ⟨rs, o⟩ := I.lo 0 h0; ⟨_, o.wa⟩
theorem I10.off {K H0 A ws ss H n hs} (I : I10 K H0 A ws ss H n hs) {c : Addr} {o : HO} (e : H c = some o) (h : ∀ xs, o ≠ .lst xs) : c ∉ M10 A := fun m => let ⟨xs, g⟩ := I.lst m; h xs (Option.some.inj (e.symm.trans g))
theorem I10.new {K H0 A ws ss H n hs} (I : I10 K H0 A ws ss H n hs) {c : Addr} (e : H c = none) : c ∉ M10 A := fun m => let ⟨xs, g⟩ := I.lst m; absurd (e.symm.trans g) (by intro z; cases z)
theorem I10.put {K H0 A ws ss H n hs H' k ws' ss' rs1 rs2} (I : I10 K H0 A ws ss H n hs) (F : F10 A H0) (hk : k < 2) (fr : ∀ c o, c ∉ K10 A k → H c = some o → H' c = some o)
    (o : LastO K H' (A.b k) (A.dx k) (A.d k) (A.e k) rs1 ws' ss') (l : H' (A.l k) = some (.lst rs2)) (lt : WtAll H' rs2 ws') (m : H' (A.m k) = some (.lst (ss'.map V.int))) (l1 : ws'.length ≤ n + 1) (l2 : ss'.length ≤ n + 1) :
    I10 K H0 A (fun j => if j = k then ws' else ws j) (fun j => if j = k then ss' else ss j) H' (n + 1) hs := by
  have fr2 : ∀ c o, c ∉ M10 A → H c = some o → H' c = some o := fun c o h e => fr c o (fun z => h (k_in hk _ z)) e
  have ft : ∀ c xs, H c = some (.tup xs) → H' c = some (.tup xs) := fun c xs e => fr2 _ _ (I.off e (by intro xs z; cases z)) e
  obtain ⟨ob, ow, os, oq⟩ := F.off
  refine ⟨fun c o e => fr2 c o (fun m => by rw [F.zn c m] at e; cases e) (I.sm _ _ e), fr2 _ _ ob I.bks, fr2 _ _ ow I.wrs, fr2 _ _ os I.srs, fr _ _ (F.hl hk) I.hls, fun t h => (I.prs t h).fr ft fr2, ?_, ?_, ?_, ?_, fr2 _ _ oq I.ct⟩
  · intro j hj
    by_cases e : j = k
    · subst e
      refine ⟨rs1, ?_⟩
      show LastO K H' (A.b j) (A.dx j) (A.d j) (A.e j) rs1 (if j = j then ws' else ws j) (if j = j then ss' else ss j)
      rw [if_pos rfl, if_pos rfl]
      exact o
    · obtain ⟨rs, oj⟩ := I.lo j hj
      refine ⟨rs, ?_⟩
      show LastO K H' (A.b j) (A.dx j) (A.d j) (A.e j) rs (if j = k then ws' else ws j) (if j = k then ss' else ss j)
      rw [if_neg e, if_neg e]
      exact ⟨fr2 _ _ (I.off oj.ob (by intro xs z; cases z)) oj.ob, fr _ _ (F.sep hj hk e _ (by simp [K10])) oj.wa, oj.wt.fr ft, fr _ _ (F.sep hj hk e _ (by simp [K10])) oj.sk, oj.de⟩
  · intro j hj
    by_cases e : j = k
    · subst e
      refine ⟨rs2, l, ?_⟩
      show WtAll H' rs2 (if j = j then ws' else ws j)
      rw [if_pos rfl]
      exact lt
    · obtain ⟨rs, ej, tj⟩ := I.wl j hj
      refine ⟨rs, fr _ _ (F.sep hj hk e _ (by simp [K10])) ej, ?_⟩
      show WtAll H' rs (if j = k then ws' else ws j)
      rw [if_neg e]
      exact tj.fr ft
  · intro j hj
    show H' (A.m j) = some (.lst ((if j = k then ss' else ss j).map V.int))
    by_cases e : j = k
    · subst e
      rw [if_pos rfl]
      exact m
    · rw [if_neg e]
      exact fr _ _ (F.sep hj hk e _ (by simp [K10])) (I.ml j hj)
  · intro j hj
    show (if j = k then ws' else ws j).length ≤ n + 1 ∧ (if j = k then ss' else ss j).length ≤ n + 1
    split
    · exact ⟨l1, l2⟩
    · have := I.lw j hj
      omega
theorem I10.app {K H0 A ws ss H n hs t} (I : I10 K H0 A ws ss H n hs) (F : F10 A H0) (p : Pair10 A H t) : I10 K H0 A ws ss (upd H A.hl (.lst (hs ++ [t]))) n (hs ++ [t]) := by
  have hm : A.hl ∈ M10 A := by simp [M10]
  have fr : ∀ c o, c ≠ A.hl → H c = some o → upd H A.hl (.lst (hs ++ [t])) c = some o := fun c o h e => by rw [upd_ne h]; exact e
  have fr2 : ∀ c o, c ∉ M10 A → H c = some o → upd H A.hl (.lst (hs ++ [t])) c = some o := fun c o h e => fr c o (fun z => h (by rw [z]; exact hm)) e
  have ft : ∀ c xs, H c = some (.tup xs) → upd H A.hl (.lst (hs ++ [t])) c = some (.tup xs) := fun c xs e => fr2 _ _ (I.off e (by intro xs z; cases z)) e
  have fk : ∀ k, k < 2 → ∀ c o, c ∈ K10 A k → H c = some o → upd H A.hl (.lst (hs ++ [t])) c = some o := fun k hk c o m e => fr c o (fun z => F.hl hk (by rw [← z]; exact m)) e
  obtain ⟨ob, ow, os, oq⟩ := F.off
  refine ⟨fun c o e => fr2 c o (fun m => by rw [F.zn c m] at e; cases e) (I.sm _ _ e), fr2 _ _ ob I.bks, fr2 _ _ ow I.wrs, fr2 _ _ os I.srs, upd_same, fun u hu => ?_, fun k hk => ?_, fun k hk => ?_, fun k hk => fk k hk _ _ (by simp [K10]) (I.ml k hk), I.lw, fr2 _ _ oq I.ct⟩
  · rw [List.mem_append, List.mem_singleton] at hu
    rcases hu with hu | rfl
    · exact (I.prs u hu).fr ft fr2
    · exact p.fr ft fr2
  · obtain ⟨rs, o⟩ := I.lo k hk
    exact ⟨rs, fr2 _ _ (I.off o.ob (by intro xs z; cases z)) o.ob, fk k hk _ _ (by simp [K10]) o.wa, o.wt.fr ft, fk k hk _ _ (by simp [K10]) o.sk, o.de⟩
  · obtain ⟨rs, e, w⟩ := I.wl k hk
    exact ⟨rs, fk k hk _ _ (by simp [K10]) e, w.fr ft⟩
theorem dueL_cases {ws : Wt} {ss : List Int} {way : Int} {v z y : V} (hw : way = 0 ∨ way = 1 ∨ way = 2) :
    (way = 0 ∧ ∃ a n, z = .int a ∧ y = .int n ∧ dueL ws ss way v z y = (.int ws.length, ws ++ [some (a, n)], ss)) ∨
    (way = 1 ∧ ∃ (i : Nat) (a b n : Int), v = .int i ∧ i < ws.length ∧ ws[i]? = some (some (b, n)) ∧ z = .int a ∧ dueL ws ss way v z y = (.non, ws.set i (some (a, n)), ss)) ∨
    (way = 2 ∧ ∃ (i : Nat) (b n : Int), v = .int i ∧ i < ws.length ∧ ws[i]? = some (some (b, n)) ∧ dueL ws ss way v z y = (.non, ws.set i none, ss ++ [n])) ∨ (∃ s, dueL ws ss way v z y = (.str s, ws, ss)) := by
  rcases hw with rfl | rfl | rfl
  · rw [dueL_0]
    cases e : placeW z with
    | none => exact .inr (.inr (.inr ⟨_, rfl⟩))
    | some a =>
      cases e2 : numW y with
      | none => exact .inr (.inr (.inr ⟨_, rfl⟩))
      | some n => exact .inl ⟨rfl, a, n, (placeW_some e).1, (numW_some e2).1, rfl⟩
  · rw [dueL_1]
    cases e : tickOf ws v with
    | none => exact .inr (.inr (.inr ⟨_, rfl⟩))
    | some t =>
      obtain ⟨i, b, n⟩ := t
      obtain ⟨e1, e2, e3⟩ := tick_some e
      cases e4 : placeW z with
      | none => exact .inr (.inr (.inr ⟨_, rfl⟩))
      | some a => exact .inr (.inl ⟨rfl, i, a, b, n, e1, e2, e3, (placeW_some e4).1, rfl⟩)
  · rw [dueL_2]
    cases e : tickOf ws v with
    | none => exact .inr (.inr (.inr ⟨_, rfl⟩))
    | some t =>
      obtain ⟨i, b, n⟩ := t
      obtain ⟨e1, e2, e3⟩ := tick_some e
      exact .inr (.inr (.inl ⟨rfl, i, b, n, e1, e2, e3, rfl⟩))
theorem r_neRefl {K : PySem.W.Frag} {x : V} {H : Hp} {Q : VK} (h : (∃ n, x = .int n) ∨ (∃ z, x = .str z) ∨ x = .non) (q : Q (.bl false) H) : gNe K x x H Q := by
  rcases h with ⟨n, rfl⟩ | ⟨z, rfl⟩ | rfl
  · rw [r_neI, decide_eq_true rfl]
    exact q
  · rw [r_neS, decide_eq_true rfl]
    exact q
  · exact q
def sp_law (K : PySem.W.Frag) : Sp := fun vs H Q _ => ∃ (a : Addr) (ns : List Int), vs = [.ref a] ∧ SqL K H a (ns.map V.int) ∧ ns.length ≤ 63 ∧ ∀ H', Q (.bl true) H'
section
variable {P : Program} {w : World} {K : PySem.W.Frag} {mg : Str → Option Value} {base : Heap}
theorem f_law (T : Tx K mg) : Fn P w K mg base 5 "law" ["_law_script"] (sp_law K) := by
  have c_Lasts___init__ := f_Lasts___init__ (P := P) (w := w) (base := base) T
  have c__law_place := f__law_place (P := P) (w := w) (base := base) T
  have c__law_number := f__law_number (P := P) (w := w) (base := base) T
  have c_Lasts_said := f_Lasts_said (P := P) (w := w) (base := base) T
  have c_Lasts_pending := f_Lasts_pending (P := P) (w := w) (base := base) T
  have c__law_due := f__law_due (P := P) (w := w) (base := base) T
  have c__law_done := f__law_done (P := P) (w := w) (base := base) T
  have c__law_is_number := f__law_is_number (P := P) (w := w) (base := base) T
  have c__law_right := f__law_right (P := P) (w := w) (base := base) T
  refine T.mkFn 18 26 (d := d_law) (N := ["_law_script", "_law_both", "_law_waits", "_law_spoken", "_law_held", "_law_cell", "_law_side", "_law_way", "_law_more", "_law_ticket", "_law_place_here", "_law_number_here", "_law_before", "_law_due_here", "_law_found"]) (k := 4) rfl rfl rfl rfl rfl sc_law (fun _ _ _ _ _ _ us hl => match us, hl with | [_], _ => rfl) (fun vs H Q E h => ?len) (fun cdv A outer s H vs Q E hr h => ⟨_,
      (pss_cons (ps_set (i := 1) sc_law.nd rfl (Or.inl rfl) (pe_lst (pa_cons (pe_mk0 (K := K) rfl (takes_of rfl rfl rfl rfl) c_Lasts___init__ (hr.mono (by decide)) (by rfl)) (pa_cons (pe_mk0 (K := K) rfl (takes_of rfl rfl rfl rfl) c_Lasts___init__ (hr.mono (by decide)) (by rfl)) pa_nil))))
        (pss_cons (ps_set (i := 2) sc_law.nd rfl (Or.inl rfl) (pe_lst (pa_cons (pe_lst pa_nil) (pa_cons (pe_lst pa_nil) pa_nil))))
        (pss_cons (ps_set (i := 3) sc_law.nd rfl (Or.inl rfl) (pe_lst (pa_cons (pe_lst pa_nil) (pa_cons (pe_lst pa_nil) pa_nil))))
        (pss_cons (ps_set (i := 4) sc_law.nd rfl (Or.inl rfl) (pe_lst pa_nil))
        (pss_cons (ps_for (passes_of rfl) rfl (pi_listK (K := K) rfl (pe_slice (sl_listK (K := K) rfl) (pv 0) (po_some pe_int) (po_some pe_int))) (pg_name (i := 5) sc_law.nd rfl (Or.inl rfl)) (pss_cons (ps_set (i := 6) sc_law.nd rfl (Or.inl rfl) (pe_op op_mod (pv 5) pe_int))
        (pss_cons (ps_set (i := 7) sc_law.nd rfl (Or.inl rfl) (pe_menu (pa_cons pe_int (pa_cons pe_int (pa_cons pe_int (pa_cons pe_int (pa_cons pe_int pa_nil))))) (pe_op op_mod (pe_op op_fdiv (pv 5) pe_int) pe_int) (fun _ _ => rfl)))
        (pss_cons (ps_set (i := 8) sc_law.nd rfl (Or.inl rfl) (pe_op op_fdiv (pv 5) pe_int))
        (pss_cons (ps_set (i := 9) sc_law.nd rfl (Or.inl rfl) (pe_op op_sub (pe_op op_mod (pv 8) (pe_op op_gAdd (pe_callB (call_lenK (K := K) rfl) (by rfl) (T.free 30) PySem.boot_len (pa_cons (pe_ix (ix_seqK (K := K) rfl) (pv 2) (pv 6) (fun _ _ => rfl)) pa_nil)) pe_int)) pe_int))
        (pss_cut (ps_if (pt_cmpR (op_eqK (K := K) rfl hr.units) (pe_op op_mod (pv 8) pe_int) pe_int (nomark _)) (pss_one (ps_set (i := 9) sc_law.nd rfl (Or.inl rfl) (pe_menu (pa_cons pe_bl (pa_cons pe_bl (pa_cons pe_non (pa_cons pe_str (pa_cons (pe_op op_pow pe_int pe_int) (pa_cons (pe_lst (pa_cons pe_int pa_nil)) pa_nil)))))) (pe_op op_mod (pe_op op_fdiv (pv 8) pe_int) pe_int) (fun _ _ => rfl)))) pss_nil)
        (pss_cons (ps_set (i := 10) sc_law.nd rfl (Or.inl rfl) (pe_fn (takes_of rfl rfl rfl rfl) c__law_place (hr.mono (by decide)) (by rfl) (pa_cons (pv 0) (pa_cons (pe_op op_fdiv (pv 8) pe_int) pa_nil))))
        (pss_cons (ps_set (i := 11) sc_law.nd rfl (Or.inl rfl) (pe_fn (takes_of rfl rfl rfl rfl) c__law_number (hr.mono (by decide)) (by rfl) (pa_cons (pe_op op_fdiv (pv 8) pe_int) pa_nil)))
        (pss_cons (ps_set (i := 12) sc_law.nd rfl (Or.inl rfl) (pe_lst (pa_cons (pe_mt0 (K := K) rfl (takes_of rfl rfl rfl rfl) (pe_ix (ix_seqK (K := K) rfl) (pv 1) (pv 6) (fun _ _ => rfl)) c_Lasts_pending (hr.mono (by decide))) (pa_cons (pe_mt0 (K := K) rfl (takes_of rfl rfl rfl rfl) (pe_ix (ix_seqK (K := K) rfl) (pv 1) (pv 6) (fun _ _ => rfl)) c_Lasts_said (hr.mono (by decide))) pa_nil))))
        (pss_cons (ps_expr (pe_bm PySem.F.plainAttrs_list PySem.F.slot_list_append PySem.F.type_list_append mt_append (pv 4) (pa_cons (pe_tup (pa_cons (pv 12) (pa_cons (pe_lst (pa_cons (pe_callTy (call_listK (K := K) rfl) (by rfl) (T.free 37) (by decide +kernel) (pa_cons (pe_ix (ix_seqK (K := K) rfl) (pv 12) pe_int (fun _ _ => rfl)) pa_nil)) (pa_cons (pe_callTy (call_listK (K := K) rfl) (by rfl) (T.free 37) (by decide +kernel) (pa_cons (pe_ix (ix_seqK (K := K) rfl) (pv 12) pe_int (fun _ _ => rfl)) pa_nil)) pa_nil))) pa_nil))) pa_nil)))
        (pss_cons (ps_set (i := 13) sc_law.nd rfl (Or.inl rfl) (pe_fn (takes_of rfl rfl rfl rfl) c__law_due (hr.mono (by decide)) (by rfl) (pa_cons (pe_ix (ix_seqK (K := K) rfl) (pv 2) (pv 6) (fun _ _ => rfl)) (pa_cons (pv 7) (pa_cons (pv 9) (pa_cons (pv 10) (pa_cons (pv 11) pa_nil)))))))
        (pss_cons (ps_set (i := 14) sc_law.nd rfl (Or.inl rfl) (pe_fn (takes_of rfl rfl rfl rfl) c__law_done (hr.mono (by decide)) (by rfl) (pa_cons (pe_ix (ix_seqK (K := K) rfl) (pv 1) (pv 6) (fun _ _ => rfl)) (pa_cons (pv 7) (pa_cons (pv 9) (pa_cons (pv 10) (pa_cons (pv 11) pa_nil)))))))
        (pss_cons (ps_if (PW.pt (pw_or (pt_cmpR (op_neK (K := K) rfl hr.units) (pv 14) (pv 13) (nomark _)) (pw_or1 (pt_cmpR (op_neK (K := K) rfl hr.units) (pe_fn (takes_of rfl rfl rfl rfl) c__law_is_number (hr.mono (by decide)) (by rfl) (pa_cons (pv 14) pa_nil)) (pe_fn (takes_of rfl rfl rfl rfl) c__law_is_number (hr.mono (by decide)) (by rfl) (pa_cons (pv 13) pa_nil)) (nomark _))))) (pss_one (ps_ret pe_bl)) pss_nil)
        (pss_cut (ps_if (PW.pt (pw_and (pt_cmpR (op_eqK (K := K) rfl hr.units) (pv 7) pe_int (nomark _)) (pw_and1 (pt_val (pe_fn (takes_of rfl rfl rfl rfl) c__law_is_number (hr.mono (by decide)) (by rfl) (pa_cons (pv 13) pa_nil)))))) (pss_one (ps_expr (pe_bm PySem.F.plainAttrs_list PySem.F.slot_list_append PySem.F.type_list_append mt_append (pe_ix (ix_seqK (K := K) rfl) (pv 2) (pv 6) (fun _ _ => rfl)) (pa_cons (pe_tup (pa_cons (pv 10) (pa_cons (pv 11) pa_nil))) pa_nil)))) pss_nil)
        (pss_cut (ps_if (PW.pt (pw_and (pt_cmpR op_isN (pv 13) pe_non (nomark _)) (pw_and1 (pt_cmpR (op_eqK (K := K) rfl hr.units) (pv 7) pe_int (nomark _))))) (pss_one (ps_asg (pe_tup (pa_cons (pv 10) (pa_cons (pe_ix (ix_seqK (K := K) rfl) (pe_ix (ix_seqK (K := K) rfl) (pe_ix (ix_seqK (K := K) rfl) (pv 2) (pv 6) (fun _ _ => rfl)) (pv 9) (fun _ _ => rfl)) pe_int (fun _ _ => rfl)) pa_nil))) (pg_sub (pe_ix (ix_seqK (K := K) rfl) (pv 2) (pv 6) (fun _ _ => rfl)) (pv 9) set_list))) pss_nil)
        (pss_cut (ps_if (PW.pt (pw_and (pt_cmpR op_isN (pv 13) pe_non (nomark _)) (pw_and1 (pt_cmpR (op_eqK (K := K) rfl hr.units) (pv 7) pe_int (nomark _))))) (pss_cons (ps_expr (pe_bm PySem.F.plainAttrs_list PySem.F.slot_list_append PySem.F.type_list_append mt_append (pe_ix (ix_seqK (K := K) rfl) (pv 3) (pv 6) (fun _ _ => rfl)) (pa_cons (pe_ix (ix_seqK (K := K) rfl) (pe_ix (ix_seqK (K := K) rfl) (pe_ix (ix_seqK (K := K) rfl) (pv 2) (pv 6) (fun _ _ => rfl)) (pv 9) (fun _ _ => rfl)) pe_int (fun _ _ => rfl)) pa_nil)))
        (pss_one (ps_asg pe_non (pg_sub (pe_ix (ix_seqK (K := K) rfl) (pv 2) (pv 6) (fun _ _ => rfl)) (pv 9) set_list)))) pss_nil)
        (pss_one (ps_if (PW.pt (pw_or (pt_not (pt_val (pe_fn (takes_of rfl rfl rfl rfl) c__law_right (hr.mono (by decide)) (by rfl) (pa_cons (pe_ix (ix_seqK (K := K) rfl) (pv 1) pe_int (fun _ _ => rfl)) (pa_cons (pe_ix (ix_seqK (K := K) rfl) (pv 2) pe_int (fun _ _ => rfl)) (pa_cons (pe_ix (ix_seqK (K := K) rfl) (pv 3) pe_int (fun _ _ => rfl)) pa_nil)))))) (pw_or1 (pt_not (pt_val (pe_fn (takes_of rfl rfl rfl rfl) c__law_right (hr.mono (by decide)) (by rfl) (pa_cons (pe_ix (ix_seqK (K := K) rfl) (pv 1) pe_int (fun _ _ => rfl)) (pa_cons (pe_ix (ix_seqK (K := K) rfl) (pv 2) pe_int (fun _ _ => rfl)) (pa_cons (pe_ix (ix_seqK (K := K) rfl) (pv 3) pe_int (fun _ _ => rfl)) pa_nil))))))))) (pss_one (ps_ret pe_bl)) pss_nil))))))))))))))))))
        (pss_one (ps_ret (pe_callB (call_allK (K := K) rfl rfl) (by rfl) (T.free 34) (by decide +kernel) (pa_cons (pe_lc (own := [("_law_found", 14), ("_law_due_here", 13)]) (g := gTup K 2 (gCons (gName 14) (gCons (gName 13) gNil))) rfl sc_law.nd (pi_listK (K := K) rfl (pv 4)) (blkOk_by (own := [("_law_found", 14), ("_law_due_here", 13)]) (N := ["_law_script", "_law_both", "_law_waits", "_law_spoken", "_law_held", "_law_cell", "_law_side", "_law_way", "_law_more", "_law_ticket", "_law_place_here", "_law_number_here", "_law_before", "_law_due_here", "_law_found"]) (sc := defScope s_law) (by decide +kernel)) (fun _ _ _ _ _ => (pg_tup (n := 2) rfl (pgs_cons (pg_name (i := 14) sc_law.nd rfl (Or.inl rfl)) (pgs_cons (pg_name (i := 13) sc_law.nd rfl (Or.inl rfl)) pgs_nil)))) (fun _ _ _ _ _ => pts_nil) (fun _ _ _ _ _ => (pe_cmpR (op_eqK (K := K) rfl hr.units) (pv 14) (pv 13) (nomark _)))) pa_nil))))))))), ?rd⟩)
  case len => obtain ⟨a, ns, rfl, _⟩ := h; rfl
  case rd =>
    obtain ⟨a, ns, rfl, hS, hl, q⟩ := h
    obtain ⟨H0, eH0⟩ : ∃ H0, H0 = H := ⟨H, rfl⟩
    walk_at "w3"
    have sz : 100 ≤ sizeLine := by rw [sizeLine_eq]; omega
    intro b0 dx0 nb0 ndx0 ne0
    refine ⟨b0, dx0, rfl, upd_same, fun d0 e0 H1 hd0 he0 B0 k0 => ⟨rfl, ?_⟩⟩
    have s1 := same_init nb0 ndx0 ne0 k0
    intro b1 dx1 nb1 ndx1 ne1
    refine ⟨b1, dx1, rfl, upd_same, fun d1 e1 H2 hd1 he1 B1 k1 => ⟨rfl, by omega, fun p hp => ⟨by omega, fun l0 hl0 => ⟨by omega, fun l1 hl1 => ⟨by omega, fun wr hwr => ⟨by omega, fun m0 hm0 => ⟨by omega, fun m1 hm1 => ⟨by omega, fun sr hsr => ⟨by omega, fun hh hhh => ?_⟩⟩⟩⟩⟩⟩⟩⟩⟩
    have s2 := same_init nb1 ndx1 ne1 k1
    have sp := same_new (o := .lst [.ref b0, .ref b1]) hp
    have sl0 := same_new (o := .lst []) hl0
    have sl1 := same_new (o := .lst []) hl1
    have swr := same_new (o := .lst [.ref l0, .ref l1]) hwr
    have sm0 := same_new (o := .lst []) hm0
    have sm1 := same_new (o := .lst []) hm1
    have ssr := same_new (o := .lst [.ref m0, .ref m1]) hsr
    have shh := same_new (o := .lst []) hhh
    have tH := shh
    have tS := ssr.trans tH
    have tM1 := sm1.trans tS
    have tM0 := sm0.trans tM1
    have tW := swr.trans tM0
    have tL1 := sl1.trans tW
    have tL0 := sl0.trans tL1
    have tP := sp.trans tL0
    have sA := s2.trans tP
    have sB := s1.trans sA
    refine ⟨a, _, rfl, sB.seq hS, fun q' hq' => ?_⟩
    walk_at "w3"
    obtain ⟨cs, ec⟩ := cut_ints ns (some 1) (some 21)
    have cl := cut_len (xs := ns.map V.int) (a := 1) (b := 21) (by decide) (by decide)
    rw [ec] at cl ⊢
    have sq := same_new (o := .lst (cs.map V.int)) hq'
    have two : ∀ {Q : Nat → Prop}, Q 0 → Q 1 → ∀ k, k < 2 → Q k := fun {Q} h0 h1 k hk => by
      have : k = 0 ∨ k = 1 := by omega
      rcases this with rfl | rfl
      · exact h0
      · exact h1
    obtain ⟨A, eA⟩ : ∃ A : A10, A = ⟨fun j => if j = 0 then b0 else b1, fun j => if j = 0 then dx0 else dx1, fun j => if j = 0 then d0 else d1, fun j => if j = 0 then e0 else e1, fun j => if j = 0 then l0 else l1, fun j => if j = 0 then m0 else m1, p, wr, sr, hh, q', cs⟩ := ⟨_, rfl⟩
    have F : F10 A H0 := by
      subst eA eH0
      have L0 : Live H1 [e0, d0] := ⟨by simp [B0.de.symm], fun c m => by
        simp only [List.mem_cons, List.not_mem_nil, or_false] at m
        rcases m with rfl | rfl
        · exact ⟨_, B0.sk⟩
        · exact ⟨_, B0.wa⟩⟩
      have i1 := (same_mk (C := He.ga K "Lasts") nb1 ndx1 ne1)
      have d1n := none_of i1 hd1
      have e1n := none_of i1 he1
      have L1 : Live H2 [d1, e0, d0] := L0.cons s2 d1n B1.wa
      have L2 : Live H2 [e1, d1, e0, d0] := by
        have n := (L0.cons (H' := upd H1 e1 (.lst [])) (same_new e1n) e1n upd_same).1
        simp only [List.nodup_cons, List.mem_cons, List.not_mem_nil, or_false, not_or] at n
        have n1 := L1.1
        refine ⟨List.nodup_cons.mpr ⟨?_, n1⟩, fun c m => ?_⟩
        · simp only [List.mem_cons, List.not_mem_nil, or_false, not_or]
          exact ⟨B1.de.symm, n.1.1, n.1.2⟩
        · rcases List.mem_cons.mp m with rfl | m
          · exact ⟨_, B1.sk⟩
          · exact L1.2 c m
      have LF := (((((((((L2.cons sp hp upd_same).cons sl0 hl0 upd_same).cons sl1 hl1 upd_same).cons swr hwr upd_same).cons sm0 hm0 upd_same).cons sm1 hm1 upd_same).cons ssr hsr upd_same).cons shh hhh upd_same).cons sq hq' upd_same)
      refine ⟨LF.1, fun m hm => ?_⟩
      simp only [M10, List.mem_cons, List.not_mem_nil, or_false, if_true, if_false, Nat.one_ne_zero] at hm
      have uP := s1.trans (s2.trans sp)
      have uL := uP.trans (sl0.trans sl1)
      rcases hm with rfl | rfl | rfl | rfl | rfl | rfl | rfl | rfl | rfl
      · exact none_of (uL.trans (swr.trans (sm0.trans (sm1.trans ssr)))) hhh
      · exact none_of (uL.trans (swr.trans sm0)) hm1
      · exact none_of (uL.trans swr) hm0
      · exact none_of (uP.trans sl0) hl1
      · exact none_of uP hl0
      · exact none_of s1 e1n
      · exact none_of s1 d1n
      · exact none_of (same_mk nb0 ndx0 ne0) he0
      · exact none_of (same_mk nb0 ndx0 ne0) hd0
    refine ⟨⟨_, .of upd_same⟩, ?_⟩
    refine forW_list (xs := cs.map V.int) (fun i σ H' => ∃ o5 o6 o7 o8 o9 o10 o11 o12 o13 o14 ws ss hs, σ = [some (.ref a), some (.ref A.bq), some (.ref A.wr), some (.ref A.sr), some (.ref A.hl), o5, o6, o7, o8, o9, o10, o11, o12, o13, o14] ∧ I10 K H0 A ws ss H' i hs ∧ hs.length ≤ i) ?_ ?_ ?_ ?_
    · refine ⟨none, none, none, none, none, none, none, none, none, none, fun _ => [], fun _ => [], [], ?_, ?_, Nat.le_refl _⟩
      · subst eA
        rfl
      subst eA eH0
      exact { sm := sB.trans sq, bks := (tL0.trans sq) _ _ upd_same, wrs := (tM0.trans sq) _ _ upd_same, srs := (tH.trans sq) _ _ upd_same, hls := sq _ _ upd_same, prs := fun t h => (List.not_mem_nil h).elim,
              lo := two ⟨_, B0.same (sA.trans sq)⟩ ⟨_, B1.same (tP.trans sq)⟩, wl := two ⟨_, (tL1.trans sq) _ _ upd_same, .nil⟩ ⟨_, (tW.trans sq) _ _ upd_same, .nil⟩,
              ml := two ((tM1.trans sq) _ _ upd_same) ((tS.trans sq) _ _ upd_same), lw := fun _ _ => ⟨Nat.le_refl _, Nat.le_refl _⟩, ct := upd_same }
    · rintro i σ H' hi ⟨o5, o6, o7, o8, o9, o10, o11, o12, o13, o14, ws, ss, hs, rfl, I, tl⟩
      have eq : A.q = q' := by rw [eA]
      have ec : A.cs = cs := by rw [eA]
      have ct := I.ct
      rw [eq, ec] at ct
      exact .of ct
    · rintro i x σ H' hx ⟨o5, o6, o7, o8, o9, o10, o11, o12, o13, o14, ws, ss, hs, rfl, I, tl⟩
      have hi : i < 20 := by
        have h1 := (List.getElem?_eq_some_iff.mp hx).1
        omega
      clear eA
      obtain ⟨c, rfl⟩ : ∃ c, x = .int c := by
        obtain ⟨c, -, e⟩ := List.mem_map.mp (List.mem_of_getElem? hx)
        exact ⟨c, e.symm⟩
      obtain ⟨k, hk, ek⟩ : ∃ k : Nat, k < 2 ∧ c % 2 = (k : Int) := ⟨(c % 2).toNat, by omega, by omega⟩
      have bat : ([.ref (A.b 0), .ref (A.b 1)] : List V)[k]? = some (.ref (A.b k)) := two (Q := fun k => ([.ref (A.b 0), .ref (A.b 1)] : List V)[k]? = some (.ref (A.b k))) rfl rfl k hk
      have wat : ([.ref (A.l 0), .ref (A.l 1)] : List V)[k]? = some (.ref (A.l k)) := two (Q := fun k => ([.ref (A.l 0), .ref (A.l 1)] : List V)[k]? = some (.ref (A.l k))) rfl rfl k hk
      have sat : ([.ref (A.m 0), .ref (A.m 1)] : List V)[k]? = some (.ref (A.m k)) := two (Q := fun k => ([.ref (A.m 0), .ref (A.m 1)] : List V)[k]? = some (.ref (A.m k))) rfl rfl k hk
      walk_at "w3"
      rw [ek]
      refine ⟨by omega, menu_pick (fun v => ∃ way, v = .int way ∧ (way = 0 ∨ way = 1 ∨ way = 2)) ?_ fun v ⟨way, ev, hw⟩ => ?_⟩
      · have cs : c / 2 % 5 = 0 ∨ c / 2 % 5 = 1 ∨ c / 2 % 5 = 2 ∨ c / 2 % 5 = 3 ∨ c / 2 % 5 = 4 := by omega
        rcases cs with e | e | e | e | e <;> rw [e] <;> exact ⟨_, rfl, _, rfl, by decide⟩
      subst ev
      obtain ⟨rl, wl1, wt1⟩ := I.wl k hk
      have lk := I.lw k hk
      have lrl := wt1.len
      refine r_ixL I.wrs wat (r_lenL wl1 ?_)
      walk_at "w3"
      refine ⟨by omega, fun σ H1 => ∃ v9, σ = [some (.ref a), some (.ref A.bq), some (.ref A.wr), some (.ref A.sr), some (.ref A.hl), some (.int c), some (.int k), some (.int way), some (.int (c / 10)), some v9, o10, o11, o12, o13, o14] ∧ Same H' H1 ∧ Thing H1 v9, ?_, ?_⟩
      · split
        · refine ⟨by omega, fun p hp => ⟨by omega, menu_pick (Thing (upd H' p (.lst [.int 0]))) ?_ fun v tv => ⟨_, rfl, same_new hp, tv⟩⟩⟩
          have cs : c / 10 / 11 % 6 = 0 ∨ c / 10 / 11 % 6 = 1 ∨ c / 10 / 11 % 6 = 2 ∨ c / 10 / 11 % 6 = 3 ∨ c / 10 / 11 % 6 = 4 ∨ c / 10 / 11 % 6 = 5 := by omega
          rcases cs with e | e | e | e | e | e <;> rw [e] <;> refine ⟨_, rfl, ?_⟩
          · exact .inr odd_bl
          · exact .inr odd_bl
          · exact .inr odd_non
          · exact .inr odd_str
          · exact .inl ⟨_, rfl⟩
          · exact .inr (odd_lst upd_same)
        · exact ⟨_, rfl, Same.refl _, .inl ⟨_, rfl⟩⟩
      rintro σ H1 ⟨v9, rfl, s1, t9⟩
      walk_at "w3"
      have I1 := I.same s1
      refine ⟨a, _, ns, rfl, I1.sm.seq (eH0 ▸ hS), fun v10 H2 s2 t10 => ?_⟩
      walk_at "w3"
      refine ⟨_, rfl, fun v11 H3 s3 t11 => ?_⟩
      walk_at "w3"
      have I3 := (I1.same s2).same s3
      have t9' := thing_same (s2.trans s3) t9
      have t10' := thing_same s3 t10
      obtain ⟨rs3, lo3⟩ := I3.lo k hk
      refine r_ixL I3.bks bat ⟨recv lo3.ob, _, _, _, _, _, _, _, rfl, lo3, by omega, fun f1 ps H4 nf1 s4 np4 tp4 => ?_⟩
      walk_at "w3"
      have I4 := I3.same s4
      have lo4 := lo3.same s4
      refine r_ixL I4.bks bat ⟨recv lo4.ob, _, _, _, _, _, _, _, rfl, lo4, fun f2 nf2 => ?_⟩
      walk_at "w3"
      have sf2 := same_new (o := .lst ((ss k).map V.int)) nf2
      have h4a := sf2 _ _ np4
      refine ⟨by omega, fun bp nbp => ?_⟩
      have sbp := same_new (o := .lst [.ref f1, .ref f2]) nbp
      have I5 := (I4.same sf2).same sbp
      refine ⟨ty_lst I5.hls, r_ixL (i := 0) upd_same rfl ⟨f1, ps, rfl, .inl (.of (sbp _ _ h4a)), fun u1 nu1 => ?_⟩⟩
      have su1 := same_new (o := .lst ps) nu1
      refine r_ixL (i := 1) (su1 _ _ upd_same) rfl ⟨f2, _, rfl, .inl (.of ((sbp.trans su1) _ _ upd_same)), fun u2 nu2 => ⟨by omega, fun up nup => ⟨by omega, fun tp ntp => ?_⟩⟩⟩
      have su2 := same_new (o := .lst ((ss k).map V.int)) nu2
      have sup := same_new (o := .lst [.ref u1, .ref u2]) nup
      have stp := same_new (o := .tup [.ref bp, .ref up]) ntp
      have I6a := (((I5.same su1).same su2).same sup)
      have I6 := I6a.same stp
      refine ⟨A.hl, _, _, rfl, rfl, I6.hls, by omega, ?_⟩
      have I7 := I6.app F (t := .ref tp) ⟨tp, bp, up, f1, f2, u1, u2, ps, _, ss k, rfl, upd_same, (su1.trans (su2.trans (sup.trans stp))) _ _ upd_same, stp _ _ upd_same, (sbp.trans (su1.trans (su2.trans (sup.trans stp)))) _ _ h4a, (su2.trans (sup.trans stp)) _ _ upd_same,
        tp4.same (sf2.trans (sbp.trans (su1.trans (su2.trans (sup.trans stp))))), (sbp.trans (su1.trans (su2.trans (sup.trans stp)))) _ _ upd_same, (sup.trans stp) _ _ upd_same, fun c hc => by
          simp only [List.mem_cons, List.not_mem_nil, or_false] at hc
          rcases hc with rfl | rfl | rfl | rfl | rfl | rfl
          · exact (I4.same sf2).new nbp
          · exact ((I5.same su1).same su2).new nup
          · exact I3.new nf1
          · exact I4.new nf2
          · exact I5.new nu1
          · exact (I5.same su1).new nu2⟩
      have sAll := s4.trans (sf2.trans (sbp.trans (su1.trans (su2.trans (sup.trans stp)))))
      have thk := fun v (t : Thing H3 v) => thing_upd (o' := .lst (hs ++ [.ref tp])) I6.hls rfl (thing_same sAll t)
      have t9'' := thk _ t9'
      have t10'' := thk _ t10'
      have t11'' := thk _ t11
      generalize upd _ A.hl (.lst (hs ++ [.ref tp])) = H6 at I7 t9'' t10'' t11'' ⊢
      walk_at "w3"
      obtain ⟨rl7, wl7, wt7⟩ := I7.wl k hk
      obtain ⟨rs7, lo7⟩ := I7.lo k hk
      refine r_ixL I7.wrs wat ⟨_, _, _, ss k, _, _, _, _, rfl, wl7, wt7, hw, t9'', t10'', t11'', ?_⟩
      walk_at "w3"
      refine r_ixL I7.bks bat ⟨_, _, _, _, _, _, _, _, _, _, _, rfl, lo7, by omega, by omega, hw, t9'', t10'', t11'', fun H7 rs8 w7 k7 => ?_⟩
      have hd := dueL_cases (ws := ws k) (ss := ss k) (v := v9) (z := v10) (y := v11) hw
      obtain ⟨D, eD⟩ : ∃ D, D = dueL (ws k) (ss k) way v9 v10 v11 := ⟨_, rfl⟩
      rw [← eD] at hd w7 ⊢
      have kD : (∃ n, D.1 = .int n) ∨ (∃ z, D.1 = .str z) ∨ D.1 = .non := by
        rcases hd with ⟨-, a, n, -, -, e⟩ | ⟨-, j, a, b, n, -, -, -, -, e⟩ | ⟨-, j, b, n, -, -, -, e⟩ | ⟨s, e⟩ <;> rw [e]
        · exact .inl ⟨_, rfl⟩
        · exact .inr (.inr rfl)
        · exact .inr (.inr rfl)
        · exact .inr (.inl ⟨_, rfl⟩)
      have tD : Thing H7 D.1 := by
        rcases kD with ⟨n, e⟩ | ⟨z, e⟩ | e <;> rw [e]
        · exact .inl ⟨_, rfl⟩
        · exact .inr odd_str
        · exact .inr odd_non
      clear eD
      walk_at "w3"
      refine r_neRefl kD ?_
      walk_at "w3"
      refine ⟨_, rfl, tD, _, rfl, tD, ?_⟩
      walk_at "w3"
      simp only [beq_self_eq_true, Bool.not_true, if_false, Bool.false_eq_true]
      walk_at "w3"
      have kin : ∀ x, x = A.d k ∨ x = A.e k → x ∈ K10 A k := fun x h => by
        simp only [K10, List.mem_cons, List.not_mem_nil, or_false]
        rcases h with h | h
        · exact .inl h
        · exact .inr (.inl h)
      obtain ⟨q1, q2, q3, q4, q5⟩ := F.one hk
      obtain ⟨ob, ow, os, oq⟩ := F.off
      have l7 := k7 _ _ q1.symm q3.symm wl7
      have m7 := k7 _ _ q2.symm q4.symm (I7.ml k hk)
      have wr7 := k7 _ _ (fun z => ow (k_in hk _ (kin _ (.inl z)))) (fun z => ow (k_in hk _ (kin _ (.inr z)))) I7.wrs
      have sr7 := k7 _ _ (fun z => os (k_in hk _ (kin _ (.inl z)))) (fun z => os (k_in hk _ (kin _ (.inr z)))) I7.srs
      have ft7 : ∀ c xs, H6 c = some (.tup xs) → H7 c = some (.tup xs) := fun c xs e => k7 _ _ (ne_of e lo7.wa (by intro z; cases z)) (ne_of e lo7.sk (by intro z; cases z)) e
      have wtl7 := wt7.fr ft7
      have fD : D.2.1.length ≤ i + 1 ∧ D.2.2.length ≤ i + 1 := by
        rcases hd with ⟨-, a, n, -, -, e⟩ | ⟨-, j, a, b, n, -, -, -, -, e⟩ | ⟨-, j, b, n, -, -, -, e⟩ | ⟨s, e⟩ <;> rw [e]
        · show (ws k ++ [some (a, n)]).length ≤ i + 1 ∧ (ss k).length ≤ i + 1
          rw [List.length_append]
          show (ws k).length + 1 ≤ i + 1 ∧ _
          omega
        · show ((ws k).set j (some (a, n))).length ≤ i + 1 ∧ (ss k).length ≤ i + 1
          rw [List.length_set]
          omega
        · show ((ws k).set j none).length ≤ i + 1 ∧ (ss k ++ [n]).length ≤ i + 1
          rw [List.length_set, List.length_append]
          show _ ∧ (ss k).length + 1 ≤ i + 1
          omega
        · show (ws k).length ≤ i + 1 ∧ (ss k).length ≤ i + 1
          omega
      have J : ∀ H8 rs2, (∀ c o, c ≠ A.l k → c ≠ A.m k → H7 c = some o → H8 c = some o) → H8 (A.l k) = some (.lst rs2) → WtAll H8 rs2 D.2.1 → H8 (A.m k) = some (.lst (D.2.2.map V.int)) → I10 K H0 A (fun j => if j = k then D.2.1 else ws j) (fun j => if j = k then D.2.2 else ss j) H8 (i + 1) (hs ++ [.ref tp]) := fun H8 rs2 f e1 e2 e3 => by
        have ft : ∀ c xs, H7 c = some (.tup xs) → H8 c = some (.tup xs) := fun c xs e => f _ _ (ne_of e l7 (by intro z; cases z)) (ne_of e m7 (by intro z; cases z)) e
        refine I10.put I7 F hk (fun c o h e => ?_) ⟨f _ _ (ne_of w7.ob l7 (by intro z; cases z)) (ne_of w7.ob m7 (by intro z; cases z)) w7.ob, f _ _ q1 q2 w7.wa, w7.wt.fr ft, f _ _ q3 q4 w7.sk, w7.de⟩ e1 e2 e3 fD.1 fD.2
        simp only [K10, List.mem_cons, List.not_mem_nil, or_false, not_or] at h
        exact f c o h.2.2.1 h.2.2.2 (k7 c o h.1 h.2.1 e)
      have idle : ∀ s, D = (.str s, ws k, ss k) → I10 K H0 A (fun j => if j = k then D.2.1 else ws j) (fun j => if j = k then D.2.2 else ss j) H7 (i + 1) (hs ++ [.ref tp]) := fun s e => J H7 _ (fun c o _ _ e => e) l7 (by rw [e]; exact wtl7) (by rw [e]; exact m7)
      refine ⟨fun σ H8 => σ = [some (.ref a), some (.ref A.bq), some (.ref A.wr), some (.ref A.sr), some (.ref A.hl), some (.int c), some (.int k), some (.int way), some (.int (c / 10)), some v9, some v10, some v11, some (.ref bp), some D.1, some D.1] ∧
        ((way ≠ 0 ∧ H8 = H7) ∨ (way = 0 ∧ I10 K H0 A (fun j => if j = k then D.2.1 else ws j) (fun j => if j = k then D.2.2 else ss j) H8 (i + 1) (hs ++ [.ref tp]))), ?_, ?_⟩
      · have ll7 := wt7.len
        split
        · rename_i c0
          rcases hd with ⟨-, aa, n, ez, ey, e⟩ | ⟨h, -⟩ | ⟨h, -⟩ | ⟨s, e⟩
          · have e1 : D.1 = .int (ws k).length := by rw [e]
            rw [e1]
            walk_at "w3"
            refine r_ixL wr7 wat ⟨ty_lst l7, by omega, fun pT npT => ?_⟩
            have sT := same_new (o := .tup [v10, v11]) npT
            have pl : pT ≠ A.l k := (ne_of_none l7 npT).symm
            refine ⟨A.l k, _, _, rfl, rfl, sT _ _ l7, by omega, .inr ⟨c0, J _ (rl7 ++ [.ref pT]) (fun c o h1 h2 g => by rw [upd_ne h1]; exact sT _ _ g) upd_same ?_ ?_⟩⟩
            · rw [e]
              refine ((wtl7.same sT).put (sT _ _ l7) (by intro xs z; cases z)).snoc ?_
              rw [upd_ne pl, ez, ey]
              exact upd_same
            · rw [e, upd_ne q5.symm]
              exact sT _ _ m7
          · omega
          · omega
          · have e1 : D.1 = .str s := by rw [e]
            rw [e1, odd_isnum odd_str]
            walk_at "w3"
            exact .inr ⟨c0, idle s e⟩
        · rename_i c0
          exact ⟨rfl, .inl ⟨c0, rfl⟩⟩
      rintro σ H8 ⟨rfl, h8⟩
      walk_at "w3"
      refine ⟨fun σ H8 => σ = [some (.ref a), some (.ref A.bq), some (.ref A.wr), some (.ref A.sr), some (.ref A.hl), some (.int c), some (.int k), some (.int way), some (.int (c / 10)), some v9, some v10, some v11, some (.ref bp), some D.1, some D.1] ∧
        ((way ≠ 0 ∧ way ≠ 1 ∧ H8 = H7) ∨ ((way = 0 ∨ way = 1) ∧ I10 K H0 A (fun j => if j = k then D.2.1 else ws j) (fun j => if j = k then D.2.2 else ss j) H8 (i + 1) (hs ++ [.ref tp]))), ?_, ?_⟩
      · have ll7 := wt7.len
        rcases h8 with ⟨w0, rfl⟩ | ⟨w0, I8'⟩
        · refine ite_and (fun c1 c2 => ?_) fun c12 => ?_
          · rcases hd with ⟨h, -⟩ | ⟨-, j, aa, b, n, ev, hj, ew, ez, e⟩ | ⟨h, -⟩ | ⟨s, e⟩
            · omega
            · obtain ⟨t2, g1, g2⟩ := wtl7.pair j b n ew
              refine r_ixL wr7 wat ?_
              rw [ev]
              refine r_ixL l7 g1 (r_ixT (i := 1) g2 rfl ⟨by omega, fun pT npT => ?_⟩)
              have sT := same_new (o := .tup [v10, .int n]) npT
              have pl : pT ≠ A.l k := (ne_of_none l7 npT).symm
              refine r_ixL (sT _ _ wr7) wat (r_setL (sT _ _ l7) (by omega) (by omega) ⟨rfl, .inr ⟨.inr c2, J _ (rl7.set j (.ref pT)) (fun c o h1 h2 g => by rw [upd_ne h1]; exact sT _ _ g) (by rw [Int.toNat_natCast]; exact upd_same) ?_ ?_⟩⟩)
              · rw [e]
                refine ((wtl7.same sT).put (sT _ _ l7) (by intro xs z; cases z)).set ?_
                rw [upd_ne pl, ez]
                exact upd_same
              · rw [e, upd_ne q5.symm]
                exact sT _ _ m7
            · omega
            · rw [e] at c1
              cases c1
          · by_cases c : way = 1
            · rcases hd with ⟨h, -⟩ | ⟨-, j, aa, b, n, ev, hj, ew, ez, e⟩ | ⟨h, -⟩ | ⟨s, e⟩
              · omega
              · exact absurd ⟨by rw [e], c⟩ c12
              · omega
              · exact ⟨rfl, .inr ⟨.inr c, idle s e⟩⟩
            · exact ⟨rfl, .inl ⟨w0, c, rfl⟩⟩
        · refine ite_and (fun c1 c2 => ?_) fun c12 => ?_
          · omega
          · exact ⟨rfl, .inr ⟨.inl w0, I8'⟩⟩
      rintro σ H9 ⟨rfl, h9⟩
      walk_at "w3"
      refine ⟨fun σ H8 => σ = [some (.ref a), some (.ref A.bq), some (.ref A.wr), some (.ref A.sr), some (.ref A.hl), some (.int c), some (.int k), some (.int way), some (.int (c / 10)), some v9, some v10, some v11, some (.ref bp), some D.1, some D.1] ∧
        I10 K H0 A (fun j => if j = k then D.2.1 else ws j) (fun j => if j = k then D.2.2 else ss j) H8 (i + 1) (hs ++ [.ref tp]), ?_, ?_⟩
      · have ll7 := wt7.len
        rcases h9 with ⟨w0, w1, rfl⟩ | ⟨w0, I8'⟩
        · refine ite_and (fun c1 c2 => ?_) fun c12 => ?_
          · rcases hd with ⟨h, -⟩ | ⟨h, -⟩ | ⟨-, j, b, n, ev, hj, ew, e⟩ | ⟨s, e⟩
            · omega
            · omega
            · obtain ⟨t2, g1, g2⟩ := wtl7.pair j b n ew
              refine r_ixL sr7 sat ⟨ty_lst m7, r_ixL wr7 wat ?_⟩
              rw [ev]
              refine r_ixL l7 g1 (r_ixT (i := 1) g2 rfl ⟨A.m k, _, _, rfl, rfl, m7, by rw [List.length_map]; omega, ?_⟩)
              have es : (ss k).map V.int ++ [V.int n] = (ss k ++ [n]).map V.int := by rw [List.map_append]; rfl
              rw [es]
              have wrm : A.wr ≠ A.m k := fun z => ow (by rw [z]; exact k_in hk _ (by simp [K10]))
              have wr8 : upd H9 (A.m k) (.lst ((ss k ++ [n]).map V.int)) A.wr = _ := (upd_ne wrm).trans wr7
              have l8 : upd H9 (A.m k) (.lst ((ss k ++ [n]).map V.int)) (A.l k) = _ := (upd_ne q5).trans l7
              refine r_ixL wr8 wat (r_setL l8 (by omega) (by omega) ⟨rfl, J _ (rl7.set j .non) (fun c o h1 h2 g => by rw [upd_ne h1, upd_ne h2]; exact g) (by rw [Int.toNat_natCast]; exact upd_same) ?_ ?_⟩)
              · rw [e]
                exact ((wtl7.put m7 (by intro xs z; cases z)).put l8 (by intro xs z; cases z)).rub
              · rw [e, upd_ne q5.symm]
                exact upd_same
            · rw [e] at c1
              cases c1
          · rcases hd with ⟨h, -⟩ | ⟨h, -⟩ | ⟨h, j, b, n, ev, hj, ew, e⟩ | ⟨s, e⟩
            · omega
            · omega
            · exact absurd ⟨by rw [e], h⟩ c12
            · exact ⟨rfl, idle s e⟩
        · refine ite_and (fun c1 c2 => ?_) fun c12 => ?_
          · omega
          · exact ⟨rfl, I8'⟩
      rintro σ H10 ⟨rfl, I10'⟩
      walk_at "w3"
      have z0 : (0 : Nat) < 2 := by decide
      have z1 : (1 : Nat) < 2 := by decide
      have ln0 := I10'.lw 0 z0
      obtain ⟨ra, la⟩ := I10'.lo 0 z0
      obtain ⟨rb, lb, lb2⟩ := I10'.wl 0 z0
      refine r_ixL (i := 0) I10'.bks rfl (r_ixL (i := 0) I10'.wrs rfl (r_ixL (i := 0) I10'.srs rfl ⟨_, _, _, _, _, _, _, _, _, _, rfl, la, lb, lb2, I10'.ml 0 z0, by omega, by omega, fun H11 s11 => ?_⟩))
      walk_at "w3"
      have I11 := I10'.same s11
      have ln1 := I11.lw 1 z1
      obtain ⟨rc, lc⟩ := I11.lo 1 z1
      obtain ⟨rd, ld, ld2⟩ := I11.wl 1 z1
      refine r_ixL (i := 1) I11.bks rfl (r_ixL (i := 1) I11.wrs rfl (r_ixL (i := 1) I11.srs rfl ⟨_, _, _, _, _, _, _, _, _, _, rfl, lc, ld, ld2, I11.ml 1 z1, by omega, by omega, fun H12 s12 => ?_⟩))
      walk_at "w3"
      exact ⟨_, _, _, _, _, _, _, _, _, _, _, _, _, rfl, I11.same s12, by rw [List.length_append]; show hs.length + 1 ≤ i + 1; omega⟩
    · rintro σ H' ⟨o5, o6, o7, o8, o9, o10, o11, o12, o13, o14, ws, ss, hs, rfl, I, tl⟩
      walk_at "w3"
      refine ⟨⟨_, .of I.hls⟩, fun D hD => lc_list (xs := hs) (fun i H => H = upd H' D (.lst (List.replicate i (.bl true)))) rfl (fun i H _ e => ?_) (fun i x H hx e => ?_) fun H e => ?_⟩
      · rw [e]
        exact .of ((same_new hD) _ _ I.hls)
      · rw [e]
        obtain ⟨tp, f, u, f1, f2, u1, u2, ps, yss, zs, rfl, h0, h1, h2, h3, h4, h5, h6, h7, h8⟩ := I.prs x (List.mem_of_getElem? hx)
        have sD : Same H' (upd H' D (.lst (List.replicate i (.bl true)))) := same_new hD
        have tl2 : hs.length ≤ 20 := by
          rw [List.length_map] at tl
          rw [List.length_map] at cl
          omega
        have hi := (List.getElem?_eq_some_iff.mp hx).1
        have fI : ∀ x ∈ zs.map V.int, flatI x = true := fun x h => by
          obtain ⟨i, -, e⟩ := List.mem_map.mp h
          subst e
          rfl
        walk_at "w3"
        refine ⟨_, .inl (.inl (sD _ _ h0)), rfl, ?_⟩
        walk_at "w3"
        have d1 : Dp K (upd H' D (.lst (List.replicate i (.bl true)))) (.ref f) (.list [tupD yss, .list ((zs.map V.int).map toD)]) := .lst (.of (sD _ _ h1)) (.cons (dp_tups (sD _ _ h3) (h5.same sD)) (.cons (dp_flat (sD _ _ h6) fI) .nil))
        have d2 : Dp K (upd H' D (.lst (List.replicate i (.bl true)))) (.ref u) (.list [tupD yss, .list ((zs.map V.int).map toD)]) := .lst (.of (sD _ _ h2)) (.cons (dp_tups (sD _ _ h4) (h5.same sD)) (.cons (dp_flat (sD _ _ h7) fI) .nil))
        have sh : SeqAt.shaped (.list [tupD yss, .list ((zs.map V.int).map toD)]) = true := by
          refine (ShK.lst (k := 3) fun z h => ?_).ok (by decide)
          rcases List.mem_cons.mp h with rfl | h
          · refine (ShK.lst (k := 1) fun z h => ?_).up (by decide)
            obtain ⟨xs, -, e⟩ := List.mem_map.mp h
            subst e
            exact ShK.tup toDs_sh
          · rw [List.mem_singleton] at h
            subst h
            exact (ShK.lst toDs_sh).up (by decide)
        refine r_eqSame d1 d2 sh ⟨_, upd_same, by rw [List.length_replicate]; omega, ?_⟩
        rw [upd_upd, ← List.replicate_succ, List.replicate_succ']
      · rw [e]
        refine ⟨D, List.replicate hs.length true, rfl, .of (by rw [List.map_replicate]; exact upd_same), ?_⟩
        rw [all_rep]
        exact q _
end

/-! ## the head and the end -/
abbrev RR : PySem.W.OpenRow := PySem.W.OpenLaw.row PySem.Challenge.rw_cellkeep_k10_last_words_said
abbrev hk : PySem.W.Hook := hookG 6 fa fn exL
def ob (s : PySem.W.SharedT) : He.AlD × Bool := lookG 6 fa fn exL (HandSHeadRun.getT s)
theorem ob_eq (s : PySem.W.SharedT) : ob s = hk.obs s.abs := lookG_eq (HandSHeadRun.getT_eq s)
def loose : List Str := (["KeepError", "BadNumber", "BadWord", "BadCount", "NoPlace", "NoRoom", "NoSlot", "NoCell", "NoHand", "NothingHeld", "NoName", "NoDeed", "NoImage", "NoProgram", "MOST_NUMBER", "MOST_PLACE", "is_whole", "number_word", "place_word", "Lasts", "_law_draw", "_law_alone", "_law_done", "_law_is_number", "_law_due", "_law_right", "_law_place", "_law_number"] : List Str)
theorem run (w : World) : HandSHeadRun.RunEq RR (PySem.W.view RR.prog [32]) hk ob 4000 loose w := by
  intro os
  kernel_rfl
theorem facts {w : World} {K : PySem.W.Frag} {h : Heap} {mg : Str → Option Value} {f : Addr} (X : K.In h) (G : h.Ns mainGlobals mg) (hfa : mg ("law" : Str) = some (.ref f)) (c : He.SaysD fa fn K) (ce : exOk exL K = true) :
    ∃ fd : FuncData, (∀ (s : Shared) (v : Value), BindsTo s fd ⟨[v], []⟩ [("_law_script", v)]) ∧ ∀ base : Heap, K.In base → base.Ns mainGlobals mg → FnOk (PySem.Challenge.rw_cellkeep_k10_last_words_said).prog w K mg base CX0 5 f fd ["_law_script"] (sp_law K) := by
  have T : Tx K mg := ⟨⟨h, X, G⟩, c, ce⟩
  have e := hfa.symm.trans (T.glo 26)
  cases e
  have F : ∀ base : Heap, Fn (PySem.Challenge.rw_cellkeep_k10_last_words_said).prog w K mg base 5 "law" ["_law_script"] (sp_law K) := fun base => f_law T
  exact ⟨_, fun s v => (F h).bd s [v] rfl, fun base _ _ => quiet (F base).ok fun _ _ _ _ z => z⟩

end Pr
open PySem PySem.W PySem.Calls PyProof.Rows
theorem PySem.Challenge.cw_cellkeep_k10_last_words_said_holds : PySem.Challenge.rw_cellkeep_k10_last_words_said.Holds := by
  w_on; o_law
  refine HandSHeadRun.head_any (r := OpenLaw.row PySem.Challenge.rw_cellkeep_k10_last_words_said) (q := view (OpenLaw.row PySem.Challenge.rw_cellkeep_k10_last_words_said).prog [32]) (H := Pr.hk) (ob := Pr.ob) (M := 4000) (loose := Pr.loose) (d := HandSHeadRun.topDef (OpenLaw.row PySem.Challenge.rw_cellkeep_k10_last_words_said).prog 32) (kwd := []) Pr.ob_eq
    (by kernel_rfl) (fun s => by kernel_rfl) Pr.run (by kernel_rfl) (by kernel_rfl) (by kernel_rfl) (by rfl) (by first | assumption | decide +kernel) (by decide +kernel) ⟨rfl, rfl, rfl, rfl, rfl, by decide +kernel⟩ ?hw ?hc
  case hw => w_witness2
  case hc =>
    refine L2.walk_ofE (l := PySem.Challenge.rw_cellkeep_k10_last_words_said) (n := 63) (k := 5) (x := "_law_script") (CX := L2.CX0) rfl (by decide) (by kernel_rfl) ⟨rfl, by decide, by decide⟩ ?F (fun _ _ _ _ z => z)
    case F =>
      intro w mg fa h Y G hmg0
      obtain ⟨K, KX, c, ce⟩ := Y
      have hmg : mg ("law" : PySem.Str) = some (.ref fa) := by
        have e : (HandSHeadRun.topDef (OpenLaw.row PySem.Challenge.rw_cellkeep_k10_last_words_said).prog 32).name = ("law" : PySem.Str) := by kernel_rfl
        rw [← e]
        exact hmg0
      obtain ⟨fd, hb, hF⟩ := Pr.facts (w := w) KX G hmg c ce
      exact ⟨K, fd, Pr.sp_law K, KX, hb, fun H a ns hl _ hS => ⟨a, ns, rfl, hS, hl, fun _ => rfl⟩, hF⟩
#print axioms PySem.Challenge.cw_cellkeep_k10_last_words_said_holds

