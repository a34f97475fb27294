import PyProof.Rows.All
import Wide.All
import OpenK.AllK
import Wide.FinOn
import KE.KStateDown
import HandS.Base
import HandS.Call
import HandS.List
import HandS.Comp
import HandS.Ends
import HandS.Dict
import HandS.Iter
import HandS.Walk
import HandS.Text
import HandS.Words
import HandS.WordsList
import HandS.WordsDict
import HandS.Exc
import HandS.TryOnly
import HandS.TryMany
import HandS.ExcOwn
import HandS.WordsExc
import HandS.IsInst
import HandS.ExcIs
import HandS.Flow
import HandS.More
import HandS.Wide
import HandS.SortInts
import HandS.Defaults
import HandS.Head0
import HandS.Head1
import HandS.Head2
import HandS.HeadEnd
import HandS.HeadHook1
import HandS.HeadHook2
import PySem.Challenge.RW_cellkeep_k04_cells_laid
set_option Elab.async false
set_option linter.all false
set_option maxRecDepth 100000
set_option maxHeartbeats 4000000
namespace G
open PySem PySem.Spec PyProof.Rows L2

/-! ## a caught exception as a tracked thing -/
/-- an exception object of class cls stands at a -/
def ExA (cls : Value) (a : Addr) : HO := .ext fun h => ∃ (o : Obj) (fv : Array Value), h.get? a = some o ∧ Zc cls none o ∧ o.data = .fields fv
theorem exA_ok {P : Program} {w : World} {H : Hp} {h : Heap} {a : Addr} {cls : Value} {o : Obj} {fv : Array Value} (e : h.get? a = some o) (z : Zc cls none o) (d : o.data = .fields fv) : ObjOk P w H h a (ExA cls a) :=
  ⟨⟨o, fv, e, z, d⟩, ⟨o, e⟩, fun _ _ ⟨o', fv', e', z', d'⟩ k => ⟨o', fv', k _ e', z', d'⟩⟩

section
variable {X : Cx} {pins : List (Addr × Obj)} {σ : L2.St} {H : Hp} {s : Shared}
/-- an object that stands untracked is tracked from now on -/
theorem track {a : Addr} {u : HO} (I : Inv X pins σ H s) (na : H a = none) (n0 : X.s_0.heap.get? a = none) (nL : a ≠ X.env.locals) (nC : ∀ x c, X.env.cells.lookup x = some c → c ≠ a)
    (nP : ∀ p ∈ X.pn ++ pins, p.1 ≠ a) (new : ObjOk X.prog X.w (upd H a u) s.heap a u) : Inv X pins σ (upd H a u) s := by
  have ne0 : ∀ b o, X.s_0.heap.get? b = some o → b ≠ a := fun b o e z => by rw [z, n0] at e; cases e
  have neH : ∀ b o, H b = some o → b ≠ a := fun b o e z => by rw [z, na] at e; cases e
  refine ⟨I.ok, I.os, I.bare, ⟨I.base.keep, I.base.slot, ?_, I.base.there, ?_, ?_, ?_⟩, I.loc, I.cell, ?_, ?_, ?_, ?_, I.len⟩
  · intro b o e n hx
    rw [upd_ne (ne0 b o e)]
    exact I.base.free b o e n hx
  · intro b xs e
    have q := I.base.tups b xs e
    rw [upd_ne (neH b _ q)]
    exact q
  · intro b o u' e
    have q := I.base.frzs b o u' e
    rw [upd_ne (neH b _ q)]
    exact q
  · intro b ps e
    obtain ⟨m, q⟩ := I.base.tbls b ps e
    exact ⟨m, by rw [upd_ne (neH b _ q)]; exact q⟩
  · rw [upd_ne (Ne.symm nL)]
    exact I.free
  · intro x c e
    rw [upd_ne (nC x c e)]
    exact I.freeC x c e
  · intro p hp
    obtain ⟨e, n, ne, nf, d⟩ := I.pin p hp
    exact ⟨e, by rw [upd_ne (nP p hp)]; exact n, ne, nf, d⟩
  · intro b o e
    by_cases hb : b = a
    · subst hb
      rw [upd_same] at e
      cases e
      exact new
    · rw [upd_ne hb] at e
      refine (I.hok b o e).stay (fun _ _ _ z => z) (fun c z => ?_) fun c xs z => ?_
      · rw [upd_ne (neH c _ z)]
        exact z
      · rw [upd_ne (neH c _ z)]
        exact z
/-- a list that was laid since the def began is forgotten -/
theorem forget {a : Addr} {xs : List V} (I : Inv X pins σ (upd H a (.lst xs)) s) (na : H a = none) (n0 : X.H_0 a = none) : Inv X pins σ H s := by
  have back : ∀ b, b ≠ a → upd H a (.lst xs) b = H b := fun b hb => upd_ne hb
  have nn : ∀ b, upd H a (.lst xs) b = none → H b = none := fun b e => by
    by_cases hb : b = a
    · rw [hb, upd_same] at e
      cases e
    · rw [upd_ne hb] at e
      exact e
  refine ⟨I.ok, I.os, I.bare, ⟨I.base.keep, I.base.slot, fun b o e n hx => nn b (I.base.free b o e n hx), I.base.there, ?_, ?_, ?_⟩, I.loc, I.cell, nn _ I.free, fun x c e => nn _ (I.freeC x c e), fun p hp => ?_, ?_, I.len⟩
  · intro b ys e
    rw [← back b (fun z => by rw [z, n0] at e; cases e)]
    exact I.base.tups b ys e
  · intro b o u' e
    rw [← back b (fun z => by rw [z, n0] at e; cases e)]
    exact I.base.frzs b o u' e
  · intro b ps e
    rw [← back b (fun z => by rw [z, n0] at e; cases e)]
    exact I.base.tbls b ps e
  · obtain ⟨e, n, r⟩ := I.pin p hp
    exact ⟨e, nn _ n, r⟩
  · intro b o e
    have hb : b ≠ a := fun z => by rw [z, na] at e; cases e
    have q : upd H a (.lst xs) b = some o := by rw [upd_ne hb]; exact e
    refine (I.hok b o q).stay (fun _ _ _ z => z) (fun c z => ?_) fun c ys z => ?_
    · rw [← back c (fun y => by rw [y, upd_same] at z; cases z)]
      exact z
    · rw [← back c (fun y => by rw [y, upd_same] at z; cases z)]
      exact z
/-- what a fresh address of now was ahead of the def -/
theorem fresh0 {a : Addr} (I : Inv X pins σ H s) (na : H a = none) (nt : ∀ o, X.H_0 a = some o → ∃ ob, X.s_0.heap.get? a = some ob) (hs : s.heap.objs.size ≤ a) : X.H_0 a = none := by
  cases e : X.H_0 a with
  | none => rfl
  | some o =>
    obtain ⟨ob, q⟩ := nt o e
    exact absurd (Nat.lt_of_lt_of_le (Heap.lt_size q) (Nat.le_trans I.sz hs)) (Nat.lt_irrefl _)
end
end G
namespace G
open PySem PySem.Spec PyProof.Rows L2
/-! ## a display that is subscripted at once -/
section
variable {X : Cx} {pins : List (Addr × Obj)} {σ : L2.St} {H : Hp} {s : Shared}
theorem itemAt {value slice : Expr} {E : Value → Shared → Prop} {Q : Value → Shared → Prop} {p : Addr} {xs : List V} {its : List Value} {i : Int} {t : Tok} {z : V} (r : Vals xs its) (pl : PlainL s.heap p its.toArray) (hz : xs.length ≤ sizeLine) (he : atI xs i = some z)
    (fin : ∀ w, RelV z w → Q w s) (hs : subscripted slice false (.ref p) (.int i t) = operate [.ref p, .int i t] (getItem (.ref p) (.int i t))) :
    wpAny (model X.prog X.w) X.A (subscriptTail value slice (.ref p) (.int i t)) Q E s := by
  obtain ⟨j, g1, g2, g3, g4, g5⟩ := atI_get he
  obtain ⟨u, eu, ru⟩ := r.get g2
  have ln := r.length
  have big := line63
  by_cases c : 0 ≤ i
  · have ej : i.toNat = j := Option.some.inj ((seqIndex_of c g5).symm.trans g1)
    exact item_listR pl.isList c (by omega) (by subst ej; simpa using eu) (fin u ru) hs
  · have ej : (i + (its.toArray.size : Int)).toNat = j := by
      have z1 := (seqIndex_neg (by omega) g4).symm.trans g1
      simp only [List.size_toArray, ← ln]
      exact Option.some.inj z1
    refine subscriptTail_builtinR (x := u) pl.isList.typeIs slot_list_getitem.lookup ?_ hs
    refine wpAny_getItem_list_neg (Q := fun r s' => r = u ∧ Q r s') pl.isList (by omega) ?_ (by omega) (by subst ej; simpa using eu) ⟨rfl, fin u ru⟩
    simp only [List.size_toArray]
    omega
/-- [a, b, ..][i]: the list is never seen again -/
def tMenu (ta : TA) (ti : TE) : TE := fun σ H Q => ta σ H fun xs H1 => xs.length ≤ sizeLine ∧ ti σ H1 fun y H2 => ∃ i v, y = .int i ∧ atI xs i = some v ∧ Q v H2
theorem pe_menu {es : List Expr} {b : Expr} {ta : TA} {tb : TE} {p1 pos : Pos} (ha : PA X es ta) (hb : PE X b tb) (hs : PlainIx b) : PE X (.Subscript (.List es p1) b pos) (tMenu ta tb) := by
  refine ⟨fun pins s σ H Q I h => ?_⟩
  refine Subscript_ (wpAny_List_spliced (thn (ha.run p1 pins s σ H _ I h) fun us s1 ⟨xs, H1, I1, r, z, q⟩ => ⟨by rw [← r.length]; exact z, ?_⟩))
  have hf : H1 s1.heap.objs.size = none := I1.hok.fresh (Nat.le_refl _)
  have I2 : Inv X pins σ H1 { s1 with heap := s1.heap.push { cls := .type "list", data := .seq us.toArray } } := I1.kept (t' := s1.toks) fun _ _ e => Heap.get?_push_of_some _ e
  have eo : (s1.heap.push { cls := .type "list", data := .seq us.toArray }).get? s1.heap.objs.size = some { cls := .type "list", data := .seq us.toArray } := Heap.get?_push_size _ rfl
  have I3 := I2.pinned (fp := [s1.heap.objs.size]) (fun b hb => by
    have e : b = s1.heap.objs.size := by simpa using hb
    subst e
    exact I1.fpOk (Nat.le_refl _) hf) fun b hb => by
    have e : b = s1.heap.objs.size := by simpa using hb
    subst e
    exact ⟨_, eo, fun v z => by cases z⟩
  refine thn (hb.run _ _ σ H1 _ I3 q) fun u s2 ⟨y, H2, I4, ry, i, v, ey, hv, q2⟩ => ?_
  subst ey
  obtain ⟨t, rfl⟩ := ry
  have e2 : s2.heap.get? s1.heap.objs.size = some { cls := .type "list", data := .seq us.toArray } :=
    (I4.pin (s1.heap.objs.size, _) (List.mem_append_right _ (List.mem_append_right _ (mem_pinsAt (List.mem_cons_self) eo)))).1
  exact itemAt r ⟨_, _, e2, rfl, rfl, rfl⟩ z hv (fun w rw' => ⟨v, H2, I4.unpinned, rw', q2⟩) (hs _ _)
end
/-! ## defs that may be called while an exception is handled: they raise nothing -/
structure RoomN (k : Nat) (A : Around) : Prop where
  dp : A.depth + 3 * k + 5 < recursionLimit
  un : A.units + 16 * k + 200 < cLine
theorem roomN_of {k : Nat} {A : Around} (r : Room k A) : RoomN k A := ⟨r.dp, r.un⟩
theorem roomN_mark {k : Nat} {A : Around} {v : Option Value} (r : Room k A) : RoomN k (A.mark v) := ⟨r.dp, r.un⟩
theorem RoomN.mono {j k : Nat} {A : Around} (r : RoomN k A) (h : j ≤ k) : RoomN j A := ⟨by have := r.dp; omega, by have := r.un; omega⟩
theorem RoomN.deeper {k : Nat} {A : Around} (r : RoomN (k + 1) A) (env : Env) : RoomN k (A.deeper env) :=
  ⟨by have h := r.dp; show A.depth + 1 + (3 * k + 5) < _; omega, by have h := r.un; show A.units + 3 + (16 * k + 200) < _; omega⟩
abbrev cxN (P : Program) (w : World) (K : PySem.W.Frag) (mg : Str → Option Value) (base : Heap) (N : List Str) (qual : Str) (scope : Scope) (f : Addr) (cd : Value) (A : Around) (outer : List Env) (s : Shared) (H : Hp) : Cx :=
  { cxOf CX0 P w K mg base N qual scope f cd A outer s H E0 with calm := false }
structure FnN (P : Program) (w : World) (K : PySem.W.Frag) (mg : Str → Option Value) (base : Heap) (k : Nat) (f : Addr) (fd : FuncData) (ps : List Str) (sp : Sp) : Prop where
  len : ∀ vs H Q E, sp vs H Q E → vs.length = ps.length
  run : ∀ (A : Around) (outer : List Env) (s : Shared) (H : Hp) (args : Args) (us : List Value) (vs : List V) (Q : VK), RoomN k A → Env0 P w K mg base A outer s H → BindsTo s fd args (ps.zip us) → Vals vs us → sp vs H Q E0 →
    codeAny (model P w) A (.call (.ref f) args) (CR CX0 outer P w H s Q E0) s
theorem FnN.mono {P : Program} {w : World} {K : PySem.W.Frag} {mg : Str → Option Value} {base : Heap} {j k : Nat} {f : Addr} {fd : FuncData} {ps : List Str} {sp : Sp} (F : FnN P w K mg base j f fd ps sp) (h : j ≤ k) : FnN P w K mg base k f fd ps sp :=
  ⟨F.len, fun A outer s H args us vs Q hr => F.run A outer s H args us vs Q (hr.mono h)⟩
section
variable {P : Program} {w : World} {K : PySem.W.Frag} {mg : Str → Option Value} {base : Heap}
theorem fn_ofN {x qual : Str} {params : Arguments} {body : List Stmt} {scope : Scope} {dvs : List V} {kws : List (Str × V)} {f : Addr} {fd : FuncData} {N ps : List Str} {k : Nat} {sp : Sp} (F : FunD K x qual params body scope dvs kws f fd) (S : FnScope N ps scope)
    (len : ∀ vs H Q E, sp vs H Q E → vs.length = ps.length)
    (hbody : ∀ (cdv : Value) (A : Around) (outer : List Env) (s : Shared) (H : Hp) (vs : List V) (Q : VK), RoomN k (A.deeper (envOfC qual scope s.heap.objs.size f cdv)) → sp vs H Q E0 →
      ∃ t, PSs (cxN P w K mg base N qual scope f cdv A outer s H) body t ∧ t { nx := fun _ H' => Q .non H', rt := Q } (start N vs) H) : FnN P w K mg base (k + 1) f fd ps sp := by
  obtain ⟨oc, od, dV, kV, doc, pm, an, cdv, ct, osl, rfl, lk, hcd, -, -⟩ := F.ex
  refine ⟨len, fun A outer s H args us vs Q hr e0 hb r hsp => ?_⟩
  have hl := len _ _ _ _ hsp
  have st : ∀ b o, base.get? b = some o → s.heap.get? b = some o := fun b o e => (e0.bs b o e).1
  have KX : K.In s.heap := e0.mod.kin.keeps st
  refine codeAny_call_function (by have := hr.dp; omega) (KX _ _ lk) rfl S.co S.gen rfl (PySem.W.codeRec_of KX hcd) (hb _ _ _ _ ?_)
  refine wpAny_newFunctionEnv_cells S.kind (fun y hy => ?_) fun env he s1 x => ?_
  · rcases S.par y.1 (List.of_mem_zip hy).1 with q | q
    · exact .inl q
    · exact .inr ⟨q, PySem.W.cellsFrom_some _ _ _ (.inl q)⟩
  subst he
  refine ⟨(e0.mod.nolimit.keeps st).keeps x.toInCall.keep, codeAny_func ?_⟩
  obtain ⟨t, ht, hq⟩ := hbody cdv A outer s H vs Q (hr.deeper _) hsp
  have J : Inv (cxOf CX0 P w K mg base N qual scope f cdv { A with handled := none } outer s H E0) [] (start N vs) H s1 := inv_start S rfl ⟨e0.frames, e0.mod, e0.bs, e0.bsz, e0.funs, e0.frf, e0.hok, e0.bare⟩ hl r x
  have I : Inv (cxN P w K mg base N qual scope f cdv A outer s H) [] (start N vs) H s1 :=
    ⟨⟨J.ok.mod, J.ok.kind, J.ok.glob, J.ok.blt, J.ok.above, J.ok.inj, J.ok.has, J.ok.cab, fun z => Bool.noConfusion (show false = true from z), Around.frames_deeper e0.frames, J.ok.stk, J.ok.exf, J.ok.bs, J.ok.bsz, J.ok.noex, J.ok.exfs, J.ok.funs, J.ok.frf⟩,
      J.os, J.bare, J.base, J.loc, J.cell, J.free, J.freeC, J.pin, J.hok, J.len⟩
  refine wpAny_mono (ht.run [] s1 (start N vs) H _ I hq) (fun fl s' hs => ?_) fun e s' hs => hs
  cases fl with
  | ret u =>
    obtain ⟨v, σ', H', J', rv, q⟩ := hs
    exact ⟨v, H', J'.os, J'.bare, J'.base, J'.hok, rv, q⟩
  | next =>
    obtain ⟨σ', H', J', q⟩ := hs
    exact ⟨.non, H', J'.os, J'.bare, J'.base, J'.hok, rfl, q⟩
  | brk => exact hs.elim fun _ z => z.elim fun _ y => y.2.elim
  | cont => exact hs.elim fun _ z => z.elim fun _ y => y.2.elim
/-- as any def -/
theorem FnN.ok {k : Nat} {f : Addr} {fd : FuncData} {ps : List Str} {sp : Sp} (F : FnN P w K mg base k f fd ps sp) (h0 : ∀ vs H Q E, sp vs H Q E → sp vs H Q E0) : FnOk P w K mg base (L2.CX P w) k f fd ps sp :=
  ⟨F.len, fun A outer s H args us vs Q E hr e0 hb r hsp => codeAny_mono (F.run A outer s H args us vs Q (roomN_of hr) e0 hb r (h0 _ _ _ _ hsp)) fun r s' hq => by
    cases r with
    | error e => exact hq.elim
    | ok fl => cases fl with
      | ret u => exact hq
      | next => exact hq.elim
      | brk => exact hq.elim
      | cont => exact hq.elim⟩
end
section
variable {X : Cx} {k : Nat} {f : Addr} {fd : FuncData} {ps : List Str} {sp : Sp} {x : Str} {q pos : Pos} {e : Expr} {es : List Expr} {t : TA}
def tCallN (sp : Sp) (t : TA) : TE := fun σ H Q => t σ H fun vs H1 => sp vs H1 Q E0
theorem pe_callN (F : FnN X.prog X.w X.K X.mg X.base k f fd ps sp) (hr : RoomN k X.A) (hg : Gl X x) (hm : X.mg x = some (.ref f)) (hk : PySem.W.keepIn X.K (.ref f) = true) (hb : Binds X.K fd ps [])
    (ha : PA X (e :: es) t) (hdb : (x == ("__debug__" : Str)) = false := by decide) (he : starEach (e :: es) X.env = (false, eval e X.env) :: starEach es X.env := by rfl) (hpl : (backTo pos (starEach es X.env)).any (·.1) = false := by rfl) :
    PE X (.Call (.Name x q) (e :: es) [] pos) (tCallN sp t) := by
  refine ⟨fun pins s σ H Q I h => ?_⟩
  refine wpAny_Call_Name_kw (ld_glob I hg hm ?_ hdb)
  refine PySem.W.callWith_K (h₀ := X.base) I.ok.mod.kin hk (thn (ha.run pos pins s σ H _ I h) fun us s1 hh => ?_) he hpl
  obtain ⟨vs, H1, I1, r, h2⟩ := hh
  refine ⟨I1.kIn, ?_⟩
  have hl : us.length = ps.length := by rw [← r.length]; exact F.len _ _ _ _ h2
  have b := hb s1 us I1.kIn (by rw [List.append_nil]; exact hl)
  rw [List.append_nil] at b
  refine wpAny_call (codeAny_mono (F.run X.A X.stack s1 H1 ⟨us, []⟩ us vs Q hr I1.env0 b r h2) fun r s' hq => ?_)
  cases r with
  | error e => exact hq.elim
  | ok fl => cases fl with
    | ret u => exact I1.after hq
    | next => exact hq.elim
    | brk => exact hq.elim
    | cont => exact hq.elim
end
end G
namespace G
open PySem PySem.Spec PyProof.Rows L2
/-! ## calls whose exceptions the surroundings take (W) -/
section
variable {X : Cx} {k : Nat} {f C : Addr} {fd : FuncData} {ps : List Str} {sp : Sp} {W : WX} {x m : Str} {p pos apos : Pos} {e o : Expr} {es : List Expr} {ta : TE} {t : TA}
/-- f(..) -/
def tCallW (sp : Sp) (W : WX) (t : TA) : TE := fun σ H Q => t σ H fun vs H1 => sp vs H1 Q fun c d H2 => W c d σ H2
theorem pe_callW (tk : Takes X W) (F : FnOk X.prog X.w X.K X.mg X.base (L2.CX X.prog X.w) k f fd ps sp) (hr : Room k X.A) (hg : Gl X x) (hm : X.mg x = some (.ref f)) (hk : PySem.W.keepIn X.K (.ref f) = true) (hb : Binds X.K fd ps [])
    (ha : PA X (e :: es) t) (hdb : (x == ("__debug__" : Str)) = false := by decide) (he : starEach (e :: es) X.env = (false, eval e X.env) :: starEach es X.env := by rfl) (hpl : (backTo pos (starEach es X.env)).any (·.1) = false := by rfl) :
    PE X (.Call (.Name x p) (e :: es) [] pos) (tCallW sp W t) := pe_callS F hr hg hm hk hb (fun σ => passAt tk σ) ha hdb he hpl
theorem pe_callW0 (tk : Takes X W) (F : FnOk X.prog X.w X.K X.mg X.base (L2.CX X.prog X.w) k f fd ps sp) (hr : Room k X.A) (hg : Gl X x) (hm : X.mg x = some (.ref f)) (hk : PySem.W.keepIn X.K (.ref f) = true) (hb : Binds X.K fd ps [])
    (hdb : (x == ("__debug__" : Str)) = false := by decide) : PE X (.Call (.Name x p) [] [] pos) (tCallW sp W tNil) := by
  refine ⟨fun pins s σ H Q I h => wpAny_Call_Name_kw (ld_glob I hg hm ?_ hdb)⟩
  exact PySem.W.callWith_K0 I.kIn hk (run_fnS (us := []) (E := WE W) F hr hb (passAt tk σ) I .nil h)
/-- o.m(..) -/
def tMethW (C : Addr) (m : Str) (sp : Sp) (W : WX) (ta : TE) (t : TA) : TE := fun σ H Q => ta σ H fun x H1 => ∃ a dx fs, x = .ref a ∧ H1 a = some (.ins C dx fs) ∧ fs.lookup m = none ∧ t σ H1 fun vs H2 => sp (x :: vs) H2 Q fun c d H3 => W c d σ H3
theorem pe_methW {pl : Sem Bool} (tk : Takes X W) (he : PE X o ta) (c : Cls X.K C) (hm : Meth X.K C m f) (F : FnOk X.prog X.w X.K X.mg X.base (L2.CX X.prog X.w) k f fd ps sp) (hr : Room k X.A) (hb : Binds X.K fd ps []) (ha : PA X (e :: es) t)
    (hst : starEach (e :: es) X.env = (false, eval e X.env) :: starEach es X.env := by rfl) (hpl : (backTo pos (starEach es X.env)).any (·.1) = false := by rfl)
    (ht : eval (.Call (.Attribute o m apos) (e :: es) [] pos) X.env = (do
      let z ← eval o X.env
      standAt apos.atName
      let (g, one) ← holding [z] (getMethod z m pl)
      callWith pos g one (backTo pos (starEach (e :: es) X.env)) (backToKw pos (keywordEach [] X.env))) := by rfl) :
    PE X (.Call (.Attribute o m apos) (e :: es) [] pos) (tMethW C m sp W ta t) := by
  refine ⟨fun pins s σ H Q I h => ?_⟩
  refine PySem.W.methodCall_KW (pl := pl) (thn (he.run pins s σ H _ I h) fun u s1 hh => ?_) ht
  obtain ⟨y, H1, I1, ry, a, dx, fs, ey, ea, l, q⟩ := hh
  subst ey
  obtain rfl : u = Value.ref a := ry
  refine getmeth_ok I1 ea c hm l ?_
  refine PySem.W.callWith_K (first := [.ref a]) (h₀ := X.base) I.ok.mod.kin hm.kp (thn (ha.run pos pins s1 σ H1 _ I1 q) fun us s2 h2 => ?_) hst hpl
  obtain ⟨vs, H2, I2, r, q2⟩ := h2
  exact ⟨I2.kIn, run_fnS (us := .ref a :: us) (vs := .ref a :: vs) (E := WE W) F hr hb (passAt tk σ) I2 (.cons rfl r) q2⟩
theorem pe_methW0 {pl : Sem Bool} (tk : Takes X W) (he : PE X o ta) (c : Cls X.K C) (hm : Meth X.K C m f) (F : FnOk X.prog X.w X.K X.mg X.base (L2.CX X.prog X.w) k f fd ps sp) (hr : Room k X.A) (hb : Binds X.K fd ps [])
    (ht : eval (.Call (.Attribute o m apos) [] [] pos) X.env = (do
      let z ← eval o X.env
      standAt apos.atName
      let (g, one) ← holding [z] (getMethod z m pl)
      callWith pos g one (backTo pos (starEach [] X.env)) (backToKw pos (keywordEach [] X.env))) := by rfl) :
    PE X (.Call (.Attribute o m apos) [] [] pos) (tMethW C m sp W ta tNil) := by
  refine ⟨fun pins s σ H Q I h => ?_⟩
  refine PySem.W.methodCall_KW (pl := pl) (thn (he.run pins s σ H _ I h) fun u s1 hh => ?_) ht
  obtain ⟨y, H1, I1, ry, a, dx, fs, ey, ea, l, q⟩ := hh
  subst ey
  obtain rfl : u = Value.ref a := ry
  refine getmeth_ok I1 ea c hm l ?_
  exact PySem.W.callWith_K0 (first := [.ref a]) I1.kIn hm.kp (run_fnS (us := [.ref a]) (vs := [.ref a]) (E := WE W) F hr hb (passAt tk σ) I1 (.cons rfl .nil) q)
/-- C(..) -/
def tMakeW (C : Addr) (sp : Sp) (W : WX) (t : TA) : TE := fun σ H Q => t σ H fun vs H1 => ∀ x dx, H1 x = none → H1 dx = none → dx ≠ x →
  sp (.ref x :: vs) (upd (upd H1 dx (.own x)) x (.ins C dx [])) (fun v H2 => v = .non ∧ Q (.ref x) H2) fun c d H3 => W c d σ H3
theorem run_makeW {pins : List (Addr × Obj)} {σ : L2.St} {H : Hp} {s : Shared} {Q : VK} {us : List Value} {vs : List V} (tk : Takes X W) (M : Mk X.K C f) (F : FnOk X.prog X.w X.K X.mg X.base (L2.CX X.prog X.w) k f fd ps sp) (hr : Room (k + 1) X.A) (hb : Binds X.K fd ps [])
    (I : Inv X pins σ H s) (r : Vals vs us)
    (h : ∀ x dx, H x = none → H dx = none → dx ≠ x → sp (.ref x :: vs) (upd (upd H dx (.own x)) x (.ins C dx [])) (fun v H2 => v = .non ∧ Q (.ref x) H2) fun c d H3 => W c d σ H3) :
    wpAny (model X.prog X.w) X.A (call (.ref C) us) (EP X pins σ Q) X.xe s := by
  have go := h (s.heap.objs.size + 1) s.heap.objs.size (I.hok.fresh (Nat.le_succ _)) (I.hok.fresh (Nat.le_refl _)) (Nat.ne_of_lt (Nat.lt_succ_self _))
  have J := Inv.made (C := C) I
  have r2 : Vals (V.ref (s.heap.objs.size + 1) :: vs) (Value.ref (s.heap.objs.size + 1) :: us) := .cons rfl r
  have hl : (Value.ref (s.heap.objs.size + 1) :: us).length = ps.length := r2.length.symm.trans (F.len _ _ _ _ go)
  have b := hb { s with heap := (s.heap.push PySem.W.emptyDict).push (PySem.W.instObj C s.heap.objs.size) } (Value.ref (s.heap.objs.size + 1) :: us) J.kIn (by rw [List.append_nil]; exact hl)
  rw [List.append_nil] at b
  refine wpAny_call (make_map (f := f) I.kIn M.makes M.init (beq_iff_eq.mp M.fn) (codeAny_mono (F.run _ X.stack _ _ ⟨Value.ref (s.heap.objs.size + 1) :: us, []⟩ _ _ _ _ (hr.make C us []) (J.env0.make C us []) b r2 go) fun r s' hq => ?_))
  cases r with
  | error e => exact passAt tk σ pins _ _ e s' J hq
  | ok fl =>
    cases fl with
    | ret u =>
      obtain ⟨v, H', I3, rv, ev, q3⟩ := J.after hq
      subst ev
      exact ⟨rv, V.ref (s.heap.objs.size + 1), H', I3, rfl, q3⟩
    | next => exact hq.elim
    | brk => exact hq.elim
    | cont => exact hq.elim
theorem pe_makeW (tk : Takes X W) (M : Mk X.K C f) (F : FnOk X.prog X.w X.K X.mg X.base (L2.CX X.prog X.w) k f fd ps sp) (hr : Room (k + 1) X.A) (hg : Gl X x) (hm : X.mg x = some (.ref C)) (hb : Binds X.K fd ps [])
    (ha : PA X (e :: es) t) (hdb : (x == ("__debug__" : Str)) = false := by decide) (he : starEach (e :: es) X.env = (false, eval e X.env) :: starEach es X.env := by rfl) (hpl : (backTo pos (starEach es X.env)).any (·.1) = false := by rfl) :
    PE X (.Call (.Name x p) (e :: es) [] pos) (tMakeW C sp W t) := by
  refine ⟨fun pins s σ H Q I h => wpAny_Call_Name_kw (ld_glob I hg hm ?_ hdb)⟩
  refine PySem.W.callWith_K (h₀ := X.base) I.ok.mod.kin M.kp (thn (ha.run pos pins s σ H _ I h) fun us s1 hh => ?_) he hpl
  obtain ⟨vs, H1, I1, r, q⟩ := hh
  exact ⟨I1.kIn, run_makeW tk M F hr hb I1 r q⟩
theorem pe_makeW0 (tk : Takes X W) (M : Mk X.K C f) (F : FnOk X.prog X.w X.K X.mg X.base (L2.CX X.prog X.w) k f fd ps sp) (hr : Room (k + 1) X.A) (hg : Gl X x) (hm : X.mg x = some (.ref C)) (hb : Binds X.K fd ps [])
    (hdb : (x == ("__debug__" : Str)) = false := by decide) : PE X (.Call (.Name x p) [] [] pos) (tMakeW C sp W tNil) := by
  refine ⟨fun pins s σ H Q I h => wpAny_Call_Name_kw (ld_glob I hg hm ?_ hdb)⟩
  exact PySem.W.callWith_K0 I.kIn M.kp (run_makeW (us := []) tk M F hr hb I .nil h)
end

/-! ## try .. except x as n, the exception a tracked thing in the suite -/
/-- what the clause wishes; slot i is n's -/
def wTr (K : PySem.W.Frag) (c : Value) (i : Nat) (ts : TS) (Wo : WX) (D : Ends) : WX := fun cls d σ H => ∃ b, PySem.W.exmOne K cls c = some b ∧
  (b = true → d = none ∧ ∀ a, H a = none → ts { nx := fun σ' H' => D.nx (σ'.set i none) H', rt := D.rt, bk := fun σ' H' => D.bk (σ'.set i none) H', ct := fun σ' H' => D.ct (σ'.set i none) H' } (σ.set i (some (.ref a))) (upd H a (ExA cls a))) ∧ (b = false → Wo cls d σ H)
section
variable {X : Cx} {x n : Str} {c : Value} {i : Nat} {body suite : List Stmt} {b0 : Stmt} {np pos pos' : Pos} {tb : WX → TS} {ts : TS} {Wo : WX}
theorem toSuite {pins : List (Addr × Obj)} {σ : L2.St} {H : Hp} {s : Shared} (I : Inv X pins σ H s) (a : Addr) : Inv (X.suite a (X.pn ++ pins)) [] σ H s :=
  ⟨I.ok.suite _ _, I.os, I.bare, I.base, I.loc, I.cell, I.free, I.freeC, fun p hp => I.pin p (by simpa using hp), I.hok, I.len⟩
theorem ofSuite {pins pl : List (Addr × Obj)} {σ : L2.St} {H : Hp} {s : Shared} {a : Addr} (ok : X.Ok) (I : Inv (X.suite a (X.pn ++ pins)) pl σ H s) : Inv X pins σ H s :=
  ⟨ok, I.os, I.bare, I.base, I.loc, I.cell, I.free, I.freeC, fun p hp => I.pin p (List.mem_append_left _ hp), I.hok, I.len⟩
theorem ps_tryT (hs : X.stack = X.env :: X.outer) (hf : X.env.frame = some X.env.locals) (hex : X.ex = []) (hN : X.N.Nodup) (hi : X.N[i]? = some n) (hln : X.env.kindOf n = some .local) (hc : Names X x c) (tk : Takes X Wo)
    (hb : ∀ (W : WX) (pn : List (Addr × Obj)) (xe : Value → Shared → Prop), Takes (X.tr pn xe) W → PassesOwn (model X.prog X.w) X.A X.env xe → PSs (X.tr pn xe) body (tb W))
    (hsu : ∀ (a : Addr) (pn : List (Addr × Obj)), PSs (X.suite a pn) (b0 :: suite) ts) :
    PS X (.Try body [.ExceptHandler (some (.Name x np)) (some n) (b0 :: suite) pos'] [] [] pos) (fun D σ H => tb (wTr X.K c i ts Wo D) D σ H) := by
  refine ⟨fun pins s σ H D I h => ?_⟩
  have ok := I.ok
  have hfr : X.A.frames = some (X.env :: X.outer) := by rw [ok.frames, hs]
  have lo : Loc X.env.scope n := .inl hln
  let rest : List ExceptHandler := [.ExceptHandler (some (.Name x np)) (some n) (b0 :: suite) pos']
  let M := model X.prog X.w
  let wish : Value → Shared → Prop := fun e u1 => wpAny M X.A (noteFrame e X.env) (fun _ u2 => wpAny M X.A (setFlight e none) (fun _ u3 => wpAny M X.A (handleBy e X.env rest) (SP X pins D) X.xe u3) X.xe u2) X.xe u1
  refine wpAny_Try_except (wpAny_mono ((hb (wTr X.K c i ts Wo D) (X.pn ++ pins) wish (fun u s' air => ?_) PassesOwn.looking).run [] s σ H D (I.toTry _) h) (fun fl s1 hsp => ?_) (fun e s1 he => he))
  · obtain ⟨a, B, sg, pi', σ1, H1, cls, d, rfl, Jt, nb, up, sky, na, os, ag, b, e1, yes, no⟩ := air
    have J : Inv X pins σ1 H1 sg := Jt.ofTry ok
    have sky' : Sky B (X.env :: X.outer) a (Zc cls d) X.env.locals s'.heap := by rw [← hs]; exact sky
    show wpAny M X.A (noteFrame (.ref a) X.env) _ _ _
    refine Sky.land Zc.steady hfr hf sky' fun h3 fl3 up3 => ?_
    have u3 := up.trans up3
    have J3 : Inv X pins σ1 H1 { s' with heap := h3 } := J.landed nb fl3.1 u3 os ag
    obtain ⟨o3, f3, g3, z3, d3⟩ := fl3.there
    have nfr : a ∉ frs (X.env :: X.outer) := fun hm => by
      obtain ⟨-, o', g', nf⟩ := fl3.2.2.1.mem hm
      rw [g3] at g'
      cases g'
      exact nf _ d3
    have nL : a ≠ X.env.locals := fun z => nfr (List.mem_filterMap.mpr ⟨X.env, List.mem_cons_self, by rw [hf, z]⟩)
    have nst : a ∉ frs X.stack := by rw [hs]; exact nfr
    have nB : B.get? a = none := fl3.2.1
    have ng : sg.heap.get? a = none := by
      cases e : sg.heap.get? a with
      | none => rfl
      | some o =>
        rw [nb a o e nst] at nB
        cases nB
    have n0 : X.s_0.heap.get? a = none := by
      cases e : X.s_0.heap.get? a with
      | none => rfl
      | some o =>
        obtain ⟨o', q⟩ := J.base.there a o e (by rw [hex]; exact List.not_mem_nil)
        rw [ng] at q
        cases q
    have nC : ∀ y z, X.env.cells.lookup y = some z → z ≠ a := fun y z e q => by
      obtain ⟨v, ob, e2, -⟩ := J.cell y z e
      rw [q, ng] at e2
      cases e2
    have nP : ∀ p ∈ X.pn ++ pins, p.1 ≠ a := fun p hp q => by
      have e2 := (J.pin p hp).1
      rw [q, ng] at e2
      cases e2
    have S3 := toSuite J3 a
    refine wpAny_handleBy_cons (codeAny_handlers_test ?_) (by intro q; cases q)
    have LT : PySem.W.Looks M h3 (typeOf (.ref a)) cls := fun _ _ _ _ k q => wpAny_typeOf_ref (k _ _ g3) (by rw [z3.1]; exact q)
    have LM := PySem.W.exm_one (M := M) J3.kIn LT e1
    have test : ∀ {Q : Value → Shared → Prop} {E : Value → Shared → Prop}, Q c { s' with heap := h3 } → wpAny M (X.A.mark (some (.ref a))) (eval (.Name x np) X.env) Q E { s' with heap := h3 } := fun {Q E} q => by
      obtain ⟨hg, hdb, hm | ⟨hm, hv, hnn⟩⟩ := hc
      · exact ld_glob (X := X.suite a (X.pn ++ pins)) S3 hg hm q hdb
      · exact ld_blt (X := X.suite a (X.pn ++ pins)) S3 hg hm hv q hnn hdb
    refine test (LM.here ?_)
    cases b with
    | true =>
      refine codeAny_handlers_suite_as (HandSPX.lands_againZ fl3 fun h4 fl4 up4 => ?_)
      have J4 : Inv X pins σ1 H1 { s' with heap := h4 } := J.landed nb fl4.1 (u3.trans up4) os ag
      obtain ⟨o4, f4, g4, z4, d4⟩ := fl4.there
      obtain ⟨ed, go⟩ := yes rfl
      subst ed
      have J5 := track (u := ExA cls a) J4 na n0 nL nC nP (exA_ok g4 z4 d4)
      refine store_ok (X := X.suite a (X.pn ++ pins)) (v := .ref a) (toSuite J5 a) hN hi lo rfl (fun s5 S5 => ?_) (.inr hln)
      refine wpAny_mono ((hsu a (X.pn ++ pins)).run [] s5 _ _ _ S5 (go a na)) (fun fl s6 hsp => ?_) (fun _ _ z => False.elim z)
      have out : ∀ {σ6 : L2.St} {H6 : Hp} {Q : Shared → Prop}, Inv (X.suite a (X.pn ++ pins)) [] σ6 H6 s6 → (∀ s7, Inv X pins (σ6.set i none) H6 s7 → Q s7) →
          wpAny M X.A (do bindName X.env n .none; unbindBehindTheSuite X.env n pos') (fun _ s7 => Q s7) X.xe s6 := fun S6 hq => gone_ok (ofSuite ok S6) hN hi hln hq
      cases fl with
      | next => exact hsp.elim fun _ z => z.elim fun _ q => out q.1 fun s7 J7 => ⟨_, _, J7, q.2⟩
      | brk => exact hsp.elim fun _ z => z.elim fun _ q => out q.1 fun s7 J7 => ⟨_, _, J7, q.2⟩
      | cont => exact hsp.elim fun _ z => z.elim fun _ q => out q.1 fun s7 J7 => ⟨_, _, J7, q.2⟩
      | ret u =>
        obtain ⟨v6, σ6, H6, S6, r6, q6⟩ := hsp
        exact out S6 fun s7 J7 => ⟨_, _, _, J7, r6, q6⟩
    | false =>
      show wpAny M X.A (handleBy (.ref a) X.env []) _ _ _
      refine wpAny_handleBy_nil ?_
      obtain ⟨-, -, -, oe, vs, T, oT, ts', he, hz, hd, h1, hr⟩ := id fl3
      unfold PySem.passOn
      refine wpAny_bind (wpAny_field he hd h1 ?_)
      rw [if_neg (show ¬ ((Value.ref T == Value.none) = true) from by simp)]
      have fin : wpAny M X.A (setFlight (.ref a) X.env.frame) (fun _ u4 => wpAny M X.A (throw (.ref a) : Sem Flow) (SP X pins D) X.xe u4) X.xe { s' with heap := h3 } := by
        rw [hf]
        refine HandSPX.setFlight_upZ fl3 fun h4 hh4 up4 => wpAny_throw (tk _ _ ?_)
        exact ⟨a, B, sg, pins, σ1, H1, cls, d, rfl, J, nb, u3.trans up4, .inr (.inr (by rw [hs]; exact hh4)), na, os, ag, no rfl⟩
      first
        | exact wpAny_bind (wpAny_pure (wpAny_bind fin))
        | exact wpAny_bind fin
  · cases fl with
    | next => exact hsp.elim fun σ1 z => z.elim fun H1 q => wpAny_execs_nil ⟨σ1, H1, q.1.ofTry ok, q.2⟩
    | brk => exact hsp.elim fun σ1 z => z.elim fun H1 q => ⟨σ1, H1, q.1.ofTry ok, q.2⟩
    | cont => exact hsp.elim fun σ1 z => z.elim fun H1 q => ⟨σ1, H1, q.1.ofTry ok, q.2⟩
    | ret u =>
      obtain ⟨v, σ1, H1, J, r, q⟩ := hsp
      exact ⟨v, σ1, H1, J.ofTry ok, r, q⟩
end
end G
namespace G
open PySem PySem.Spec PyProof.Rows L2
/-! ## isinstance -/
def tyO : Option HO → Option String
  | some (.lst _) => some "list"
  | some (.frz _ (.lst _)) => some "list"
  | some (.tup _) => some "tuple"
  | some (.dK _) => some "dict"
  | some (.dT _) => some "dict"
  | _ => none
def tyOf : V → Hp → Option String
  | .non, _ => some "NoneType"
  | .bl _, _ => some "bool"
  | .int _, _ => some "int"
  | .str _, _ => some "str"
  | .ref a, H => tyO (H a)
  | _, _ => none
theorem tyOf_ok {K : PySem.W.Frag} {x : V} {H : Hp} {t : String} (h : tyOf x H = some t) : TyX K H x (.type t) := by
  cases x with
  | non => cases h; exact .base .non
  | bl b => cases h; exact .base (.bl b)
  | int i => cases h; exact .base (.int i)
  | str z => cases h; exact .base (.str z)
  | byt z => cases h
  | flt z => cases h
  | ty z => cases h
  | ref a =>
    have h1 : tyO (H a) = some t := h
    unfold tyO at h1
    split at h1
    · rename_i e; cases h1; exact .base (.lst e)
    · rename_i e; cases h1; exact .base (.frz e)
    · rename_i e; cases h1; exact .base (.tup e)
    · rename_i e; cases h1; exact .base (.dK e)
    · rename_i e; cases h1; exact .base (.dT e)
    · cases h1
/-- the classes that are asked of plain things, and the answer -/
def isB (t n : String) : Bool := t == n || (t == "bool" && n == "int")
def tys : List String := ["NoneType", "bool", "int", "str", "list", "tuple", "dict"]
theorem isB_all : ∀ t ∈ tys, ∀ n ∈ (["int", "bool", "str", "list", "tuple", "dict"] : List String), kitB t n = some (isB t n) := by decide +kernel
theorem tyOf_in {x : V} {H : Hp} {t : String} (h : tyOf x H = some t) : t ∈ tys := by
  unfold tyOf at h
  split at h
  all_goals first
    | (cases h; decide)
    | (unfold tyO at h; split at h <;> first | (cases h; decide) | (cases h))
    | (cases h)
/-- isinstance(x, T) of a plain thing -/
def gIsi : List V → Hp → VK → Prop
  | [x, .ty n], H, Q => n ∈ (["int", "bool", "str", "list", "tuple", "dict"] : List String) ∧ ∃ t, tyOf x H = some t ∧ Q (.bl (isB t n)) H
  | _, _, _ => False
section
variable {X : Cx}
theorem call_gIsi : CallR X (.builtin "isinstance") gIsi := by
  intro pins s σ H xs us Q I r h
  unfold gIsi at h
  split at h
  · obtain ⟨hn, t, ht, q⟩ := h
    exact call_isi pins s σ _ _ us Q I r ⟨_, _, .type t, .type _, _, rfl, .ty _, tyOf_ok ht, kit_ty (isB_all t (tyOf_in ht) _ hn), q⟩
  · exact h.elim
/-- isinstance(e, C) of a caught error -/
def gIsE (K : PySem.W.Frag) : List V → Hp → VK → Prop
  | [.ref a, c], H, Q => ∃ D u b, H a = some (ExA (.ref D) a) ∧ ExcC K D ∧ ClsV c u ∧ PySem.W.kitOne K (.ref D) u = some b ∧ Q (.bl b) H
  | _, _, _ => False
theorem exA_kit {pins : List (Addr × Obj)} {σ : L2.St} {H : Hp} {s : Shared} {a D : Addr} (I : Inv X pins σ H s) (h : H a = some (ExA (.ref D) a)) (C : ExcC X.K D) : ∃ P : Heap → Prop, PySem.W.KitX X.K (.ref a) (.ref D) P ∧ P s.heap := by
  obtain ⟨⟨o, fv, e, z, d⟩, -, -⟩ := I.hok a _ h
  have J : PySem.W.InstAt s.heap a o D none := by
    obtain ⟨oc, od, dt, sl⟩ := o
    obtain ⟨z1, z2⟩ := z
    dsimp only at z1 z2 d
    subst z1 z2 d
    exact ⟨e, rfl, rfl, trivial⟩
  exact ⟨_, PySem.W.handS_kitx_exc C.hg C.hk C.hs C.hd C.ha C.hn C.ht C.hm, J⟩
theorem call_gIsE : CallR X (.builtin "isinstance") (gIsE X.K) := by
  intro pins s σ H xs us Q I r h
  unfold gIsE at h
  split at h
  · obtain ⟨D, u, b, ha, C, hc, hk, q⟩ := h
    obtain ⟨u1, u2, rfl, r1, r2⟩ := vals2 r
    have e2 := hc.eq r2
    subst e2
    cases (show u1 = Value.ref _ from r1)
    obtain ⟨P, Z, p⟩ := exA_kit I ha C
    exact PySem.W.kia_one Z I.kIn p hk (fun z => nomatch z) fun tk => ⟨.bl b, _, I.tok tk, rfl, q⟩
  · exact h.elim
/-- isinstance(e, (C1, C2, ..)) of a caught error: the tuple is never seen again -/
def tIsT (K : PySem.W.Frag) (ta : TE) (tc : TA) : TE := fun σ H Q => ta σ H fun x H1 => tc σ H1 fun cs H2 => cs.length ≤ sizeLine ∧ ∃ a D us b, x = .ref a ∧ H2 a = some (ExA (.ref D) a) ∧ ExcC K D ∧ Paired ClsV cs us ∧ PySem.W.kitAny K (.ref D) us = some b ∧ Q (.bl b) H2
theorem pe_isT {a : Expr} {es : List Expr} {x1} {ta : TE} {tc : TA} {p tp pos : Pos} (hg : Gl X "isinstance") (hm : X.mg "isinstance" = none) (ha : PE X a ta) (hc : PA X es tc)
    (he : starEach [a, .Tuple es x1 tp] X.env = [(false, eval a X.env), (false, eval (.Tuple es x1 tp) X.env)] := by rfl) : PE X (.Call (.Name "isinstance" p) [a, .Tuple es x1 tp] [] pos) (tIsT X.K ta tc) := by
  refine ⟨fun pins s σ H Q I h => ?_⟩
  refine wpAny_Call_Name_kw (ld_blt I hg hm (by decide +kernel : bootBuiltins "isinstance" = some (.builtin "isinstance")) ?_ (by decide) (by decide))
  refine PyProof.Rows.callWith_builtin1 (rest := [.Tuple es x1 tp]) ?_ he rfl
  rw [he]
  show wpAny _ _ (spliced [(false, eval a X.env), (false, eval (.Tuple es x1 tp) X.env)]) _ _ _
  refine Calls.spliced_cons (thn (ha.run pins s σ H _ I h) fun u s1 ⟨x, H1, I1, rx, q1⟩ => ?_)
  refine Calls.spliced_cons (wpAny_Tuple_spliced (x1 := x1) (thn (hc.run tp pins s1 σ H1 _ I1 q1) fun us s2 hh => ?_))
  obtain ⟨cs, H2, I2, rc, hz, y, D, ws, b, ex, hy, C, hcl, hk, q⟩ := hh
  subst ex
  cases (show u = Value.ref y from rx)
  refine ⟨by rw [← rc.length]; exact hz, Calls.spliced_nil ?_⟩
  have e3 := ClsV.all hcl rc
  subst e3
  have I3 : Inv X pins σ H2 { s2 with heap := s2.heap.push { cls := .type "tuple", data := .seq us.toArray } } := I2.kept (t' := s2.toks) fun _ _ e => Heap.get?_push_of_some _ e
  obtain ⟨P, Z, p⟩ := exA_kit I3 hy C
  exact PySem.W.kia_tup Z I3.kIn p (Heap.get?_push_size _ rfl) hk (fun z => nomatch z) fun tk => ⟨.bl b, H2, I3.tok tk, rfl, q⟩

/-! ## operators by the kinds of their values -/
def gAdd : R2
  | .int i, .int j, H, Q => Q (.int (i + j)) H
  | .str i, .str j, H, Q => i.length + j.length ≤ sizeLine ∧ Q (.str (i ++ j)) H
  | .ref a, .ref b, H, Q => ∃ xs zs, H a = some (.lst xs) ∧ H b = some (.lst zs) ∧ xs.length + zs.length ≤ sizeLine ∧ ∀ p, H p = none → Q (.ref p) (upd H p (.lst (xs ++ zs)))
  | _, _, _, _ => False
theorem op_gAdd : OpR X (binaryOp .Add) gAdd := by
  intro pins s σ H x y v u Q I rx ry h
  unfold gAdd at h
  split at h
  · exact op_add pins s σ _ _ _ v u Q I rx ry ⟨_, _, rfl, rfl, h⟩
  · exact op_add_str pins s σ _ _ _ v u Q I rx ry ⟨_, _, rfl, rfl, h.1, h.2⟩
  · obtain ⟨xs, zs, h1, h2, h3, h4⟩ := h
    exact op_cat pins s σ _ _ _ v u Q I rx ry ⟨_, _, xs, zs, rfl, rfl, h1, h2, h3, h4⟩
  · exact h.elim
def gMul : R2
  | .int i, .int j, H, Q => ((-(2 ^ 64) < i ∧ i < 2 ^ 64) ∨ (-(2 ^ 64) < j ∧ j < 2 ^ 64)) ∧ Q (.int (i * j)) H
  | .str z, .int n, H, Q => (n = 0 ∨ n = 1) ∧ Q (.str (if n = 1 then z else Str.empty)) H
  | .ref a, .int k, H, Q => ∃ xs, H a = some (.lst xs) ∧ -(2 ^ 63) ≤ k ∧ k < 2 ^ 63 ∧ xs.length * k.toNat ≤ sizeLine ∧ ∀ p, H p = none → Q (.ref p) (upd H p (.lst ((List.replicate k.toNat xs).flatten)))
  | _, _, _, _ => False
theorem op_gMul : OpR X (binaryOp .Mult) gMul := by
  intro pins s σ H x y v u Q I rx ry h
  unfold gMul at h
  split at h
  · exact op_mul pins s σ _ _ _ v u Q I rx ry ⟨_, _, rfl, rfl, h.1, h.2⟩
  · rename_i z n
    obtain ⟨hn, q⟩ := h
    obtain ⟨t, rfl⟩ := rx
    obtain ⟨t', rfl⟩ := ry
    rcases hn with rfl | rfl
    · exact PySem.P.mul_str_none (by decide) (by decide) ⟨.str Str.empty, _, I.tok _, ⟨_, rfl⟩, q⟩
    · refine PySem.P.mul_str (by decide) (fun _ z => by simp at z) (fun _ z => by simp at z) ?_
      exact ⟨.str z, _, I, ⟨_, rfl⟩, q⟩
  · obtain ⟨xs, h1, h2, h3, h4, h5⟩ := h
    exact op_rep pins s σ _ _ _ v u Q I rx ry ⟨_, _, xs, rfl, rfl, h1, h2, h3, h4, h5⟩
  · exact h.elim
/-- == : flat values; else data of any depth -/
def gEq (K : PySem.W.Frag) : R2 := fun x y H Q => if flatV x && flatV y then Q (.bl (eqV x y)) H else rEqD K x y H Q
def gNe (K : PySem.W.Frag) : R2 := fun x y H Q => if flatV x && flatV y then Q (.bl (!eqV x y)) H else rNeD K x y H Q
theorem flat_eqv {K : PySem.W.Frag} {H : Hp} {x y : V} (hx : flatV x = true) (hy : flatV y = true) :
    (scal x y = true ∧ decide (x = y) = eqV x y) ∨ ∃ d e, Dp K H x d ∧ Dp K H y e ∧ SeqAt.shaped d = true ∧ SeqAt.shaped e = true ∧ PyData.eqv d e = eqV x y := by
  cases x <;> first | (cases hx; done) | skip
  all_goals (cases y <;> first | (cases hy; done) | skip)
  case bl.int b i => exact .inr ⟨_, _, .bl b, .int i, by cases b <;> decide, rfl, rfl⟩
  case int.bl i b => exact .inr ⟨_, _, .int i, .bl b, rfl, by cases b <;> decide, rfl⟩
  all_goals refine .inl ⟨rfl, ?_⟩
  all_goals first
    | rfl
    | exact dec_int
    | exact dec_bl
    | exact dec_str
theorem op_gEq (hu : X.A.units + 64 < cLine) : OpR X (compareOp .Eq) (gEq X.K) := by
  intro pins s σ H x y v u Q I rx ry h
  unfold gEq at h
  split at h
  · rename_i c
    obtain ⟨c1, c2⟩ := Bool.and_eq_true_iff.mp c
    rcases flat_eqv (K := X.K) (H := H) c1 c2 with ⟨h1, h2⟩ | ⟨d, e, h1, h2, h3, h4, h5⟩
    · exact op_eq pins s σ _ _ _ v u Q I rx ry ⟨h1, by rw [h2]; exact h⟩
    · exact op_eqD hu pins s σ _ _ _ v u Q I rx ry ⟨d, e, h1, h2, h3, h4, by rw [h5]; exact h⟩
  · exact op_eqD hu pins s σ _ _ _ v u Q I rx ry h
theorem op_gNe (hu : X.A.units + 64 < cLine) : OpR X (compareOp .NotEq) (gNe X.K) := by
  intro pins s σ H x y v u Q I rx ry h
  unfold gNe at h
  split at h
  · rename_i c
    obtain ⟨c1, c2⟩ := Bool.and_eq_true_iff.mp c
    rcases flat_eqv (K := X.K) (H := H) c1 c2 with ⟨h1, h2⟩ | ⟨d, e, h1, h2, h3, h4, h5⟩
    · exact op_ne pins s σ _ _ _ v u Q I rx ry ⟨h1, by rw [h2]; exact h⟩
    · exact op_neD hu pins s σ _ _ _ v u Q I rx ry ⟨d, e, h1, h2, h3, h4, by rw [h5]; exact h⟩
  · exact op_neD hu pins s σ _ _ _ v u Q I rx ry h
/-- abs, int(..) -/
def gAbs : List V → Hp → VK → Prop
  | [.int i], H, Q => Q (.int (i.natAbs : Int)) H
  | _, _, _ => False
theorem call_gAbs : CallR X (.builtin "abs") gAbs := by
  intro pins s σ H xs us Q I r h
  unfold gAbs at h
  split at h
  · rename_i i
    refine call_abs pins s σ _ _ us Q I r ⟨i, rfl, ?_⟩
    have e : (if i < 0 then -i else i) = (i.natAbs : Int) := by split <;> omega
    rw [e]
    exact h
  · exact h.elim
def gInt : List V → Hp → VK → Prop
  | [.int i], H, Q => Q (.int i) H
  | [.bl k], H, Q => Q (.int (if k then 1 else 0)) H
  | _, _, _ => False
theorem call_gInt : CallR X (.type "int") gInt := by
  intro pins s σ H xs us Q I r h
  unfold gInt at h
  split at h
  · exact call_int1 pins s σ _ _ us Q I r (.inl ⟨_, rfl, h⟩)
  · exact call_int1 pins s σ _ _ us Q I r (.inr ⟨_, rfl, h⟩)
  · exact h.elim
end
end G
namespace G
open PySem PySem.Spec PyProof.Rows L2
open He (ga ma fAd Fa DefD SaysD)
/-! ## what the top has written, by names -/
/-- what isinstance asks of an error's class -/
def excB (K : PySem.W.Frag) (D : Addr) : Bool :=
  (decide (PySem.W.findIn K (.ref D) "__getattribute__" = some (some (.builtin "BaseException.__getattribute__"))) && (decide (PySem.W.findIn K (.ref D) "__getattr__" = some none) && (decide (PySem.W.subIn K (.ref D) (.type "BaseException") = some true) && PySem.W.hasDictIn K D))) &&
  (decide (PySem.W.findIn K (.ref D) "__class__" = some (some (.builtin "object.__class__"))) && (decide (PySem.W.specialIn K (.builtin "object.__class__") "__get__" = some (some (.builtin "getset_descriptor.__get__"))) &&
    (decide (PySem.W.takesIn K (.builtin "object.__class__") = some true) && decide (PySem.W.mroIn K D (.type "object") = some true))))
theorem excB_ok {K : PySem.W.Frag} {D : Addr} (h : excB K D = true) : ExcC K D := by
  obtain ⟨h1, h2⟩ := He.ba h
  obtain ⟨a1, h1⟩ := He.ba h1
  obtain ⟨a2, h1⟩ := He.ba h1
  obtain ⟨a3, a4⟩ := He.ba h1
  obtain ⟨b1, h2⟩ := He.ba h2
  obtain ⟨b2, h2⟩ := He.ba h2
  obtain ⟨b3, b4⟩ := He.ba h2
  exact ⟨of_decide_eq_true a1, of_decide_eq_true a2, of_decide_eq_true a3, a4, of_decide_eq_true b1, of_decide_eq_true b2, of_decide_eq_true b3, of_decide_eq_true b4⟩
/-- d is a class under c -/
def under (d c : Str) : Bool := d == c || c == "KeepError"
/-- the errors' classes -/
def exOk (L : List Str) (K : PySem.W.Frag) : Bool := L.all fun d => excB K (ga K d) && (decide (PySem.W.kitOne K (.ref (ga K d)) (.type "ValueError") = some true) &&
  (L.all fun c => decide (PySem.W.kitOne K (.ref (ga K d)) (.ref (ga K c)) = some (under d c)) && decide (PySem.W.exmOne K (.ref (ga K d)) (.ref (ga K c)) = some (under d c))))
structure Told (fa : List Fa) (fn : List DefD) (xl : List Str) (K : PySem.W.Frag) (mg : Str → Option Value) : Prop where
  ex : ∃ h : Heap, K.In h ∧ h.Ns mainGlobals mg
  says : SaysD fa fn K
  errs : exOk xl K = true
/-- the head's look -/
def lookG (n : Nat) (fa : List Fa) (fn : List DefD) (xl : List Str) (g : Addr → Option Obj) : He.AlD × Bool := (He.obsDG n fa fn g, exOk xl (He.frG g (He.asD g n)))
def hookG (n : Nat) (fa : List Fa) (fn : List DefD) (xl : List Str) : PySem.W.Hook where
  α := He.AlD × Bool
  obs := fun s => lookG n fa fn xl s.heap.get?
  val := fun _ => (He.valD fn, true)
  says := fun _ h => ∃ K : PySem.W.Frag, K.In h ∧ SaysD fa fn K ∧ exOk xl K = true
  of := fun _ _ e => ⟨_, He.frG_in, congrArg (fun z : He.AlD × Bool => z.1) e, congrArg (fun z : He.AlD × Bool => z.2) e⟩
  keeps := fun _ _ _ ⟨K, hK, c⟩ k => ⟨K, PySem.W.Frag.In.keeps hK k, c⟩
theorem lookG_eq {n : Nat} {fa : List Fa} {fn : List DefD} {xl : List Str} {g : Addr → Option Obj} {s : Shared} (h : ∀ a, g a = s.heap.get? a) : lookG n fa fn xl g = (hookG n fa fn xl).obs s := by
  have e : g = s.heap.get? := funext h
  rw [e]
  rfl
section
variable {fa : List Fa} {fn : List DefD} {xl : List Str} {K : PySem.W.Frag} {mg : Str → Option Value}
theorem Told.glo (T : Told fa fn xl K mg) (i : Nat) {x : Str} (h : fa[i]? = some (.glo x) := by rfl) : mg x = some (.ref (ga K x)) := let ⟨_, X, N⟩ := T.ex; He.glo_ok X N (T.says.fact i h)
theorem Told.free (T : Told fa fn xl K mg) (i : Nat) {x : Str} (h : fa[i]? = some (.free x) := by rfl) : mg x = none := let ⟨_, X, N⟩ := T.ex; He.free_ok X N (T.says.fact i h)
theorem Told.num (T : Told fa fn xl K mg) (i : Nat) {x : Str} {n : Int} (h : fa[i]? = some (.int x n) := by rfl) : ∃ t, mg x = some (.int n t) := let ⟨_, X, N⟩ := T.ex; He.int_ok X N (T.says.fact i h)
theorem Told.txt (T : Told fa fn xl K mg) (i : Nat) {x z : Str} (h : fa[i]? = some (.str x z) := by rfl) : ∃ t, mg x = some (.str z t) := let ⟨_, X, N⟩ := T.ex; He.str_ok X N (T.says.fact i h)
theorem Told.err (T : Told fa fn xl K mg) {d : Str} (h : d ∈ xl) : ExcC K (ga K d) ∧ PySem.W.kitOne K (.ref (ga K d)) (.type "ValueError") = some true ∧
    ∀ c ∈ xl, PySem.W.kitOne K (.ref (ga K d)) (.ref (ga K c)) = some (under d c) ∧ PySem.W.exmOne K (.ref (ga K d)) (.ref (ga K c)) = some (under d c) := by
  obtain ⟨h1, h2⟩ := He.ba (List.all_eq_true.mp T.errs d h)
  obtain ⟨h3, h4⟩ := He.ba h2
  refine ⟨excB_ok h1, of_decide_eq_true h3, fun c hc => ?_⟩
  obtain ⟨h5, h6⟩ := He.ba (List.all_eq_true.mp h4 c hc)
  exact ⟨of_decide_eq_true h5, of_decide_eq_true h6⟩
/-- isinstance(e, c) of an error of class d -/
theorem Told.isE (T : Told fa fn xl K mg) {d c : Str} {a : Addr} {H : Hp} {Q : VK} (ha : H a = some (ExA (.ref (ga K d)) a)) (hd : d ∈ xl) (hc : c ∈ xl) (q : Q (.bl (under d c)) H) : gIsE K [.ref a, .ref (ga K c)] H Q :=
  ⟨_, _, _, ha, (T.err hd).1, .own _, ((T.err hd).2.2 c hc).1, q⟩
theorem Told.isY (T : Told fa fn xl K mg) {d c : Str} {a : Addr} {H : Hp} {Q : VK} (ha : H a = some (ExA (.ref (ga K d)) a)) (hd : d ∈ xl) (hc : c ∈ xl) (e : under d c = true) (q : Q (.bl true) H) : gIsE K [.ref a, .ref (ga K c)] H Q := T.isE ha hd hc (e ▸ q)
theorem Told.isN (T : Told fa fn xl K mg) {d c : Str} {a : Addr} {H : Hp} {Q : VK} (ha : H a = some (ExA (.ref (ga K d)) a)) (hd : d ∈ xl) (hc : c ∈ xl) (e : under d c = false) (q : Q (.bl false) H) : gIsE K [.ref a, .ref (ga K c)] H Q := T.isE ha hd hc (e ▸ q)
theorem Told.isV (T : Told fa fn xl K mg) {d : Str} {a : Addr} {H : Hp} {Q : VK} (ha : H a = some (ExA (.ref (ga K d)) a)) (hd : d ∈ xl) (q : Q (.bl true) H) : gIsE K [.ref a, .ty "ValueError"] H Q :=
  ⟨_, _, _, ha, (T.err hd).1, .ty _, (T.err hd).2.1, q⟩
end
section
variable {fa : List Fa} {fn : List DefD} {xl : List Str} {K : PySem.W.Frag} {mg : Str → Option Value}
/-- an error of class d reaches «except c», c over it -/
theorem Told.caught (T : Told fa fn xl K mg) {d c : Str} {i : Nat} {ts : TS} {Wo : WX} {D : Ends} {σ : L2.St} {H : Hp} (hd : d ∈ xl) (hc : c ∈ xl) (hu : under d c = true)
    (h : ∀ a, H a = none → ts { nx := fun σ' H' => D.nx (σ'.set i none) H', rt := D.rt, bk := fun σ' H' => D.bk (σ'.set i none) H', ct := fun σ' H' => D.ct (σ'.set i none) H' } (σ.set i (some (.ref a))) (upd H a (ExA (.ref (ga K d)) a))) :
    wTr K (.ref (ga K c)) i ts Wo D (.ref (ga K d)) none σ H :=
  ⟨true, by rw [((T.err hd).2.2 c hc).2, hu], fun _ => ⟨rfl, h⟩, fun z => by cases z⟩
end
/-- the function object at f -/
def fdAt (K : PySem.W.Frag) (f : Addr) : FuncData := match K.lookup f with
  | some ⟨_, _, .func fd, _⟩ => fd
  | _ => PySem.W.fnOf "" "" { posonlyargs := [], args := [], vararg := none, kwonlyargs := [], kw_defaults := [], kwarg := none, defaults := [] } [] { kind := .function, names := [], isGenerator := false, isCoroutine := false } .none .none .none .none none .none .none
theorem fdAt_of {K : PySem.W.Frag} {x qual : Str} {params : Arguments} {body : List Stmt} {scope : Scope} {dvs : List V} {kws : List (Str × V)} {f : Addr} {fd : FuncData} (F : FunD K x qual params body scope dvs kws f fd) : fd = fdAt K f := by
  obtain ⟨oc, od, dV, kV, doc, pm, an, cdv, ct, osl, rfl, lk, -⟩ := F.ex
  unfold fdAt
  rw [lk]
/-- every argument is given -/
def Bnd (fd : FuncData) (ps : List Str) : Prop := ∀ (s : Shared) (us : List Value), us.length = ps.length → BindsTo s fd ⟨us, []⟩ (ps.zip us)
theorem Bnd.to {K : PySem.W.Frag} {fd : FuncData} {ps : List Str} (b : Bnd fd ps) : Binds K fd ps [] := fun s us _ hl => by
  rw [List.append_nil] at hl ⊢
  exact b s us hl
/-- a def of the module: its promise sp -/
structure Fn (P : Program) (w : World) (K : PySem.W.Frag) (mg : Str → Option Value) (base : Heap) (k : Nat) (x : Str) (ps : List Str) (sp : Sp) : Prop where
  ok : FnOk P w K mg base (L2.CX P w) k (ga K x) (fdAt K (ga K x)) ps sp
  bd : Bnd (fdAt K (ga K x)) ps
  kp : PySem.W.keepIn K (.ref (ga K x)) = true
  at_ : mg x = some (.ref (ga K x))
/-- nothing is raised -/
theorem quiet {P : Program} {w : World} {K : PySem.W.Frag} {mg : Str → Option Value} {base : Heap} {k : Nat} {f : Addr} {fd : FuncData} {ps : List Str} {sp : Sp} (F : FnOk P w K mg base (L2.CX P w) k f fd ps sp) (h0 : ∀ vs H Q E, sp vs H Q E → sp vs H Q E0) : FnOk P w K mg base CX0 k f fd ps sp :=
  ⟨F.len, fun A outer s H args us vs Q E hr e0 hb r hsp => codeAny_mono (F.run A outer s H args us vs Q E0 hr e0 hb r (h0 _ _ _ _ hsp)) fun r s' hq => by
    cases r with
    | error e =>
      obtain ⟨_, _, _, _, _, _, _, _, _, _, _, _, y⟩ := hq
      exact y.elim
    | ok fl => cases fl with
      | ret u => exact hq
      | next => exact hq.elim
      | brk => exact hq.elim
      | cont => exact hq.elim⟩
/-- .. that may be called in an except suite, too -/
structure FnH (P : Program) (w : World) (K : PySem.W.Frag) (mg : Str → Option Value) (base : Heap) (k : Nat) (x : Str) (ps : List Str) (sp : Sp) : Prop where
  ok : FnN P w K mg base k (ga K x) (fdAt K (ga K x)) ps sp
  bd : Bnd (fdAt K (ga K x)) ps
  kp : PySem.W.keepIn K (.ref (ga K x)) = true
  at_ : mg x = some (.ref (ga K x))
section
variable {fa : List Fa} {fn : List DefD} {xl : List Str} {P : Program} {w : World} {K : PySem.W.Frag} {mg : Str → Option Value} {base : Heap}
theorem Told.mkFn (T : Told fa fn xl K mg) (i j : Nat) {d : DefD} {x : Str} {N ps : List Str} {k : Nat} {sp : Sp} (hd : fn[i]? = some d) (hx : d.at_ = (x, none)) (h0 : d.dfl = []) (h1 : d.kwd = []) (hg : fa[j]? = some (.glo x)) (S : FnScope N ps d.scope)
    (bnd : ∀ (kV doc pm : Value) (an : Option Addr) (cdv ct : Value) (us : List Value), us.length = ps.length → bindArgs (PySem.W.fnOf d.name d.qual d.params d.body d.scope .none kV doc pm an cdv ct) ⟨us, []⟩ = pure (ps.zip us))
    (len : ∀ vs H Q E, sp vs H Q E → vs.length = ps.length)
    (body : ∀ (cdv : Value) (A : Around) (outer : List Env) (s : Shared) (H : Hp) (vs : List V) (Q : VK) (E : XK), Room k (A.deeper (envOfC d.qual d.scope s.heap.objs.size (ga K x) cdv)) → sp vs H Q E →
      ∃ t, PSs (cxOf (L2.CX P w) P w K mg base N d.qual d.scope (ga K x) cdv A outer s H E) d.body t ∧ t { nx := fun _ H' => Q .non H', rt := Q } (start N vs) H) : Fn P w K mg base (k + 1) x ps sp := by
  obtain ⟨fd, F⟩ := T.says.def_ i hd
  have e : fAd K d.at_ = ga K x := by rw [hx]; rfl
  have e0 : d.dvs K = [] := by unfold DefD.dvs; rw [h0]; rfl
  have e1 : d.kws K = [] := by unfold DefD.kws; rw [h1]; rfl
  rw [e, e0, e1] at F
  have ef := fdAt_of F
  subst ef
  exact ⟨F.ok S len body, F.bindsA bnd, F.kp, T.glo j hg⟩
theorem Told.mkFnH (T : Told fa fn xl K mg) (i j : Nat) {d : DefD} {x : Str} {N ps : List Str} {k : Nat} {sp : Sp} (hd : fn[i]? = some d) (hx : d.at_ = (x, none)) (h0 : d.dfl = []) (h1 : d.kwd = []) (hg : fa[j]? = some (.glo x)) (S : FnScope N ps d.scope)
    (bnd : ∀ (kV doc pm : Value) (an : Option Addr) (cdv ct : Value) (us : List Value), us.length = ps.length → bindArgs (PySem.W.fnOf d.name d.qual d.params d.body d.scope .none kV doc pm an cdv ct) ⟨us, []⟩ = pure (ps.zip us))
    (len : ∀ vs H Q E, sp vs H Q E → vs.length = ps.length)
    (body : ∀ (cdv : Value) (A : Around) (outer : List Env) (s : Shared) (H : Hp) (vs : List V) (Q : VK), RoomN k (A.deeper (envOfC d.qual d.scope s.heap.objs.size (ga K x) cdv)) → sp vs H Q E0 →
      ∃ t, PSs (cxN P w K mg base N d.qual d.scope (ga K x) cdv A outer s H) d.body t ∧ t { nx := fun _ H' => Q .non H', rt := Q } (start N vs) H) : FnH P w K mg base (k + 1) x ps sp := by
  obtain ⟨fd, F⟩ := T.says.def_ i hd
  have e : fAd K d.at_ = ga K x := by rw [hx]; rfl
  have e0 : d.dvs K = [] := by unfold DefD.dvs; rw [h0]; rfl
  have e1 : d.kws K = [] := by unfold DefD.kws; rw [h1]; rfl
  rw [e, e0, e1] at F
  have ef := fdAt_of F
  subst ef
  exact ⟨fn_ofN F S len body, F.bindsA bnd, F.kp, T.glo j hg⟩
end
section
variable {X : Cx} {k : Nat} {ps : List Str} {sp : Sp} {W : WX} {x : Str} {p pos : Pos} {e : Expr} {es : List Expr} {t : TA}
theorem pe_fn (tk : Takes X W) (F : Fn X.prog X.w X.K X.mg X.base k x ps sp) (hr : Room k X.A) (hg : Gl X x) (ha : PA X (e :: es) t) (hdb : (x == ("__debug__" : Str)) = false := by decide)
    (he : starEach (e :: es) X.env = (false, eval e X.env) :: starEach es X.env := by rfl) (hpl : (backTo pos (starEach es X.env)).any (·.1) = false := by rfl) : PE X (.Call (.Name x p) (e :: es) [] pos) (tCallW sp W t) := by
  exact pe_callW tk F.ok hr hg F.at_ F.kp F.bd.to ha hdb he hpl
theorem pe_fn0 (tk : Takes X W) (F : Fn X.prog X.w X.K X.mg X.base k x ps sp) (hr : Room k X.A) (hg : Gl X x) (hdb : (x == ("__debug__" : Str)) = false := by decide) : PE X (.Call (.Name x p) [] [] pos) (tCallW sp W tNil) := by
  exact pe_callW0 tk F.ok hr hg F.at_ F.kp F.bd.to hdb
theorem pe_fnH (F : FnH X.prog X.w X.K X.mg X.base k x ps sp) (hr : RoomN k X.A) (hg : Gl X x) (ha : PA X (e :: es) t) (hdb : (x == ("__debug__" : Str)) = false := by decide)
    (he : starEach (e :: es) X.env = (false, eval e X.env) :: starEach es X.env := by rfl) (hpl : (backTo pos (starEach es X.env)).any (·.1) = false := by rfl) : PE X (.Call (.Name x p) (e :: es) [] pos) (tCallN sp t) := by
  exact pe_callN F.ok hr hg F.at_ F.kp F.bd.to ha hdb he hpl
theorem call_gLen : CallR X (.builtin "len") (L2.rLen X.K) := call_len
theorem call_lenK {K : PySem.W.Frag} (hK : X.K = K) : CallR X (.builtin "len") (L2.rLen K) := hK ▸ call_len
theorem op_eqK {K : PySem.W.Frag} (hK : X.K = K) (hu : X.A.units + 64 < cLine) : OpR X (compareOp .Eq) (gEq K) := hK ▸ op_gEq hu
theorem op_neK {K : PySem.W.Frag} (hK : X.K = K) (hu : X.A.units + 64 < cLine) : OpR X (compareOp .NotEq) (gNe K) := hK ▸ op_gNe hu
theorem ix_seqK {K : PySem.W.Frag} (hK : X.K = K) : IxR X (rIx K) := hK ▸ ix_seq
theorem call_isEK {K : PySem.W.Frag} (hK : X.K = K) : CallR X (.builtin "isinstance") (gIsE K) := hK ▸ call_gIsE
theorem sl_listK {K : PySem.W.Frag} (hK : X.K = K) : SlR X (rSlL K) := hK ▸ sl_list
theorem pi_listK {K : PySem.W.Frag} {tg l : Expr} {tl : TE} (hK : X.K = K) (h : PE X l tl) : PI X tg l (iList K tl) := hK ▸ pi_list h
def rListG (K : PySem.W.Frag) : List V → Hp → VK → Prop := fun xs H Q => ∃ p ys, xs = [.ref p] ∧ (SqL K H p ys ∨ SqT K H p ys) ∧ ∀ l, H l = none → Q (.ref l) (upd H l (.lst ys))
theorem call_listK {K : PySem.W.Frag} (hK : X.K = K) : CallR X (.type "list") (rListG K) := hK ▸ call_list_of
theorem pe_clsK {K : PySem.W.Frag} (hK : X.K = K) (h : X.mg x = some (.ref (ga K x))) (hg : Gl X x) (hdb : (x == ("__debug__" : Str)) = false := by decide) : PE X (.Name x pos) (tC (.ref (ga K x))) := pe_glob hg h rfl hdb
/-- a constant of the module -/
theorem pe_num {n : Int} (h : ∃ t, X.mg x = some (.int n t)) (hg : Gl X x) (hdb : (x == ("__debug__" : Str)) = false := by decide) : PE X (.Name x pos) (tC (.int n)) := by
  obtain ⟨t, e⟩ := h
  exact pe_glob hg e ⟨t, rfl⟩ hdb
theorem pe_txt {z : Str} (h : ∃ t, X.mg x = some (.str z t)) (hg : Gl X x) (hdb : (x == ("__debug__" : Str)) = false := by decide) : PE X (.Name x pos) (tC (.str z)) := by
  obtain ⟨t, e⟩ := h
  exact pe_glob hg e ⟨t, rfl⟩ hdb
/-- a class of the module as a value; a built-in class -/
theorem pe_cls (h : X.mg x = some (.ref (ga X.K x))) (hg : Gl X x) (hdb : (x == ("__debug__" : Str)) = false := by decide) : PE X (.Name x pos) (tC (.ref (ga X.K x))) := pe_glob hg h rfl hdb
theorem pe_ty {T : String} (hm : X.mg x = none) (hv : bootBuiltins x = some (.type T)) (hg : Gl X x) (hn : x ≠ "__name__" := by decide) (hdb : (x == ("__debug__" : Str)) = false := by decide) : PE X (.Name x pos) (tC (.ty T)) := pe_bltn hg hm hv rfl hn hdb
/-- raise C('..') -/
def tRaise (C : Addr) (W : WX) : TS := fun _ σ H => W (.ref C) none σ H
theorem ps_raiseK {K : PySem.W.Frag} {m : Str} {j : Nat} {p2 pos2 : Pos} (hK : X.K = K) (hc : X.calm = true) (tk : Takes X W) (h : (Fa.exc x).ok K = true) (hm : X.mg x = some (.ref (ga K x))) (hg : Gl X x) (hdb : (x == ("__debug__" : Str)) = false := by decide) :
    PS X (.Raise (some (.Call (.Name x p) [.Constant (.str m) j p2] [] pos)) none pos2) (tRaise (ga K x) W) := by
  subst hK
  obtain ⟨h1, h2, h3, h4⟩ := He.exc_ok h
  exact ps_raise hc tk (pmk_own PySem.F.excBase_ValueError h1 hm h2 (raises_own h3 h4) hg hdb)
theorem ps_raiseW {m : Str} {j : Nat} {p2 pos2 : Pos} (hc : X.calm = true) (tk : Takes X W) (h : (Fa.exc x).ok X.K = true) (hm : X.mg x = some (.ref (ga X.K x))) (hg : Gl X x) (hdb : (x == ("__debug__" : Str)) = false := by decide) :
    PS X (.Raise (some (.Call (.Name x p) [.Constant (.str m) j p2] [] pos)) none pos2) (tRaise (ga X.K x) W) := by
  obtain ⟨h1, h2, h3, h4⟩ := He.exc_ok h
  exact ps_raise hc tk (pmk_own PySem.F.excBase_ValueError h1 hm h2 (raises_own h3 h4) hg hdb)
end

/-! ## readings, step by step -/
section
variable {σ : L2.St} {H : Hp} {Q : VK} {QT : Bool → Hp → Prop} {QA : List V → Hp → Prop} {D : Ends} {v x y z : V} {i : Nat} {o : Option V} {ta tb te tc : TE} {t u c : TT} {ts us : TS} {as : TA} {r r' : R2} {g : TG} {b : Bool}
theorem x_K {CX : CXT} {P : Program} {w : World} {K : PySem.W.Frag} {mg : Str → Option Value} {base : Heap} {N : List Str} {qual : Str} {scope : Scope} {f : Addr} {cd : Value} {A : Around} {outer : List Env} {s : Shared} {E : XK} : (cxOf CX P w K mg base N qual scope f cd A outer s H E).K = K := rfl
theorem x_var0 : tVar 0 (some v :: σ) H Q = Q v H := propext ⟨fun ⟨_, e, q⟩ => by cases e; exact q, fun q => ⟨v, rfl, q⟩⟩
theorem x_varS : tVar (i + 1) (o :: σ) H Q = tVar i σ H Q := rfl
theorem x_c : tC v σ H Q = Q v H := rfl
theorem x_op : tOp r ta tb σ H Q = ta σ H fun x H1 => tb σ H1 fun y H2 => r x y H2 Q := rfl
theorem x_un {r : V → Hp → VK → Prop} : tUn r ta σ H Q = ta σ H fun x H1 => r x H1 Q := rfl
theorem x_cb {r : List V → Hp → VK → Prop} : tCB r as σ H Q = as σ H fun vs H1 => r vs H1 Q := rfl
theorem x_nil : tNil σ H QA = QA [] H := rfl
theorem x_cons : tCons te as σ H QA = te σ H fun x H1 => as σ H1 fun xs H2 => QA (x :: xs) H2 := rfl
theorem x_test : tTest te σ H QT = te σ H fun x H1 => ∃ k, x = .bl k ∧ QT k H1 := rfl
theorem x_b : tB te σ H QT = te σ H fun x H1 => ∃ k, x = .bl k ∧ QT k H1 := rfl
theorem x_ex {P : Bool → Prop} : (∃ k, V.bl b = .bl k ∧ P k) = P b := propext ⟨fun ⟨_, e, q⟩ => by cases e; exact q, fun q => ⟨b, rfl, q⟩⟩
theorem x_and : tAnd t u σ H QT = t σ H fun c H1 => if c = true then u σ H1 QT else QT false H1 := rfl
theorem x_or : tOr t u σ H QT = t σ H fun c H1 => if c = true then QT true H1 else u σ H1 QT := rfl
theorem x_not : tNot t σ H QT = t σ H fun c H1 => QT (!c) H1 := rfl
theorem x_andV : tAndV ta tb σ H Q = ta σ H fun x H1 => ∃ c, x = .bl c ∧ if c = true then tb σ H1 Q else Q (.bl false) H1 := rfl
theorem x_orV : tOrV ta tb σ H Q = ta σ H fun x H1 => ∃ c, x = .bl c ∧ if c = true then Q (.bl true) H1 else tb σ H1 Q := rfl
theorem x_notV : tNotV ta σ H Q = ta σ H fun x H1 => ∃ c, x = .bl c ∧ Q (.bl (!c)) H1 := rfl
theorem x_tif : tIf t ta tb σ H Q = t σ H fun c H1 => if c = true then ta σ H1 Q else tb σ H1 Q := rfl
theorem x_chain : tChain r r' ta tb tc σ H Q = ta σ H fun x H1 => tb σ H1 fun y H2 => r x y H2 fun z H3 => ∃ k, z = .bl k ∧ (if k = true then tc σ H3 fun u H4 => r' y u H4 Q else Q (.bl false) H3) := rfl
theorem x_menu : tMenu as te σ H Q = as σ H fun xs H1 => xs.length ≤ sizeLine ∧ te σ H1 fun y H2 => ∃ i v, y = .int i ∧ atI xs i = some v ∧ Q v H2 := rfl
theorem x_menuI {xs : List V} {n : Int} {P : V → Prop} : (∃ i v, V.int n = .int i ∧ atI xs i = some v ∧ P v) = ∃ v, atI xs n = some v ∧ P v := propext ⟨fun ⟨_, w, e, q⟩ => by cases e; exact ⟨w, q⟩, fun ⟨w, q⟩ => ⟨n, w, rfl, q⟩⟩
theorem x_lst : tLst as σ H Q = as σ H fun xs H1 => xs.length ≤ sizeLine ∧ ∀ p, H1 p = none → Q (.ref p) (upd H1 p (.lst xs)) := rfl
theorem x_tup : tTup as σ H Q = as σ H fun xs H1 => xs.length ≤ sizeLine ∧ ∀ p, H1 p = none → Q (.ref p) (upd H1 p (.tup xs)) := rfl
theorem x_dnew : tDNewK σ H Q = ∀ p, H p = none → Q (.ref p) (upd H p (.dK [])) := rfl
theorem x_callW {sp : Sp} {W : WX} : tCallW sp W as σ H Q = as σ H fun vs H1 => sp vs H1 Q fun c d H2 => W c d σ H2 := rfl
theorem x_callN {sp : Sp} : tCallN sp as σ H Q = as σ H fun vs H1 => sp vs H1 Q E0 := rfl
theorem x_seq : tSeq ts us D σ H = ts { D with nx := us D } σ H := rfl
theorem x_next : tNext D σ H = D.nx σ H := rfl
theorem x_ret : tRet te D σ H = te σ H D.rt := rfl
theorem x_retN : tRetN D σ H = D.rt .non H := rfl
theorem x_drop : tDrop te D σ H = te σ H fun _ H1 => D.nx σ H1 := rfl
theorem x_ifS : tIfS c ts us D σ H = c σ H fun b H1 => if b = true then ts D σ H1 else us D σ H1 := rfl
theorem x_asg : tAsg te g D σ H = te σ H fun x H1 => g x σ H1 D.nx := rfl
theorem x_name {N : L2.St → Hp → Prop} : gName i v σ H N = N (σ.set i (some v)) H := rfl
theorem x_raise {C : Addr} {W : WX} : tRaise C W D σ H = W (.ref C) none σ H := rfl
theorem x_start {N : List Str} {n : Str} {vs : List V} : start (n :: N) (v :: vs) = some v :: start N vs := by
  unfold L2.start
  simp only [List.map_cons, List.length_cons, List.cons_append, Nat.add_sub_add_right]
theorem x_start0 {N : List Str} : start N [] = List.replicate N.length none := by
  unfold L2.start
  simp
theorem q_str {a b : Str} (q : Q (.str a) H) (e : a = b) : Q (.str b) H := e ▸ q
theorem r_i0 {g : Int → Int → V} {a b : Int} : rI0 g (.int a) (.int b) H Q = Q (g a b) H := propext ⟨fun ⟨_, _, e, e', q⟩ => by cases e; cases e'; exact q, fun q => ⟨a, b, rfl, rfl, q⟩⟩
theorem r_i {C : Int → Int → Prop} {g : Int → Int → V} {a b : Int} : rI C g (.int a) (.int b) H Q = (C a b ∧ Q (g a b) H) := propext ⟨fun ⟨_, _, e, e', q⟩ => by cases e; cases e'; exact q, fun q => ⟨a, b, rfl, rfl, q⟩⟩
theorem r_u {g : Int → V} {a : Int} : rU g (.int a) H Q = Q (g a) H := propext ⟨fun ⟨_, e, q⟩ => by cases e; exact q, fun q => ⟨a, rfl, q⟩⟩
theorem r_addI {a b : Int} : gAdd (.int a) (.int b) H Q = Q (.int (a + b)) H := rfl
theorem r_addS {a b : Str} : gAdd (.str a) (.str b) H Q = (a.length + b.length ≤ sizeLine ∧ Q (.str (a ++ b)) H) := rfl
theorem r_mulI {a b : Int} : gMul (.int a) (.int b) H Q = (((-(2 ^ 64) < a ∧ a < 2 ^ 64) ∨ (-(2 ^ 64) < b ∧ b < 2 ^ 64)) ∧ Q (.int (a * b)) H) := rfl
theorem r_mulS {a : Str} {b : Int} : gMul (.str a) (.int b) H Q = ((b = 0 ∨ b = 1) ∧ Q (.str (if b = 1 then a else Str.empty)) H) := rfl
theorem r_eqI {K : PySem.W.Frag} {a b : Int} : gEq K (.int a) (.int b) H Q = Q (.bl (decide (a = b))) H := by
  show (if true = true then Q (.bl (a == b)) H else rEqD K (.int a) (.int b) H Q) = _
  rw [if_pos (rfl : true = true), Bool.beq_eq_decide_eq]
theorem r_neI {K : PySem.W.Frag} {a b : Int} : gNe K (.int a) (.int b) H Q = Q (.bl (!decide (a = b))) H := by
  show (if true = true then Q (.bl (!(a == b))) H else rNeD K (.int a) (.int b) H Q) = _
  rw [if_pos (rfl : true = true), Bool.beq_eq_decide_eq]
theorem r_eqF {K : PySem.W.Frag} (hx : flatV x = true) (hy : flatV y = true) : gEq K x y H Q = Q (.bl (eqV x y)) H := by unfold gEq; rw [hx, hy]; rfl
theorem r_neF {K : PySem.W.Frag} (hx : flatV x = true) (hy : flatV y = true) : gNe K x y H Q = Q (.bl (!eqV x y)) H := by unfold gNe; rw [hx, hy]; rfl
theorem r_eqS {K : PySem.W.Frag} {a b : Str} : gEq K (.str a) (.str b) H Q = Q (.bl (decide (a = b))) H := by
  show (if true = true then Q (.bl (a == b)) H else rEqD K (.str a) (.str b) H Q) = _
  rw [if_pos (rfl : true = true), Bool.beq_eq_decide_eq]
theorem r_neS {K : PySem.W.Frag} {a b : Str} : gNe K (.str a) (.str b) H Q = Q (.bl (!decide (a = b))) H := by
  show (if true = true then Q (.bl (!(a == b))) H else rNeD K (.str a) (.str b) H Q) = _
  rw [if_pos (rfl : true = true), Bool.beq_eq_decide_eq]
theorem n_ten : Int.natAbs 10 < 18446744073709551616 := by decide
theorem c_div {i j : Int} : CDiv i j = (0 < j ∧ j < 1073741824) := rfl
theorem c_pow {i j : Int} : CPow i j = (0 ≤ j ∧ j ≤ 1000000 ∧ i.natAbs < 2 ^ 64) := rfl
theorem r_absI {a : Int} : gAbs [.int a] H Q = Q (.int (a.natAbs : Int)) H := rfl
theorem r_intI {a : Int} : gInt [.int a] H Q = Q (.int a) H := rfl
theorem r_intB {k : Bool} : gInt [.bl k] H Q = Q (.int (if k then 1 else 0)) H := rfl
theorem r_lenL {K : PySem.W.Frag} {a : Addr} {xs : List V} (h : H a = some (.lst xs)) (q : Q (.int (xs.length : Int)) H) : L2.rLen K [.ref a] H Q := ⟨_, _, rfl, .inl ⟨_, SqL.of h, rfl⟩, q⟩
end
end G
namespace G
open PySem PySem.Spec PyProof.Rows L2
open He (ga ma fAd Fa DefD SaysD)
/-! ## classes of the module: fields, methods, instances -/
section
variable {fa : List Fa} {fn : List DefD} {xl : List Str} {K : PySem.W.Frag} {mg : Str → Option Value}
theorem Told.cls (T : Told fa fn xl K mg) (i : Nat) {x : Str} (h : fa[i]? = some (.cls x) := by rfl) : Cls K (ga K x) := He.cls_ok (T.says.fact i h)
theorem Told.noat (T : Told fa fn xl K mg) (i : Nat) {x f : Str} (h : fa[i]? = some (.noat x f) := by rfl) : NoAttr K (ga K x) f := He.noat_ok (T.says.fact i h)
end
/-- x holds v in its field f, an instance of the class at C -/
def FldIs (C : Addr) (f : Str) (x : V) (H : Hp) (v : V) : Prop := ∃ a dx fs, x = .ref a ∧ H a = some (.ins C dx fs) ∧ fs.lookup f = some v
theorem fldIs {C : Addr} {f : Str} {a dx : Addr} {H : Hp} {fs : List (Str × V)} {v : V} (h : H a = some (.ins C dx fs)) (e : fs.lookup f = some v := by rfl) : FldIs C f (.ref a) H v := ⟨a, dx, fs, rfl, h, e⟩
def gFld (C : Addr) (ta : TE) (f : Str) : TE := fun σ H Q => ta σ H fun x H1 => ∃ v, FldIs C f x H1 v ∧ Q v H1
def gSetF (C : Addr) (ta tv : TE) (f : Str) : TS := fun D σ H => tv σ H fun y H1 => ta σ H1 fun x H2 => ∃ a dx fs, x = .ref a ∧ H2 a = some (.ins C dx fs) ∧ fs.length < 1000 ∧ D.nx σ (upd H2 a (.ins C dx (putF f y fs)))
section
variable {X : Cx} {C : Addr} {o e value : Expr} {f : Str} {pos pos' : Pos} {ta tv : TE}
theorem pe_fldC (c : Cls X.K C) (n : NoAttr X.K C f) (he : PE X e ta) (hb : attributeBase e f X.env (eval e X.env) = eval e X.env := by rfl) : PE X (.Attribute e f pos) (gFld C ta f) := by
  refine ⟨fun pins s σ H Q I h => attr_of hb (thn (he.run pins s σ H _ I h) fun u s1 hh => ?_)⟩
  obtain ⟨x, H1, I1, rx, v, ⟨a, dx, fs, ex, ea, l⟩, q⟩ := hh
  subst ex
  obtain rfl : u = Value.ref a := rx
  exact getattr_ok I1 ea c n l fun _ _ I2 ru => ⟨v, H1, I2, ru, q⟩
theorem ps_fldC (c : Cls X.K C) (n : NoAttr X.K C f) (ha : PE X o ta) (hv : PE X value tv) (hs : swapsWith value (some (.Attribute o f pos')) pos.line X.env = pure false := by rfl) : PS X (.Assign [.Attribute o f pos'] value pos) (gSetF C ta tv f) := by
  refine ⟨fun pins s σ H D I h => plainObj_wpAny_Assign_Attribute (thn (hv.run pins s σ H _ I h) fun u s1 hh => ?_) hs⟩
  obtain ⟨y, H1, I1, ry, q⟩ := hh
  refine thn (ha.run pins s1 σ H1 _ I1 q) fun ov s2 h2 => ?_
  obtain ⟨x, H2, I2, rx, a, dx, fs, ex, ea, l, q2⟩ := h2
  subst ex
  obtain rfl : ov = Value.ref a := rx
  exact setattr_ok I2 ea c n l ry fun _ I3 => ⟨σ, _, I3, q2⟩
end
/-- a method of a class of the module: its promise -/
structure Mt (P : Program) (w : World) (K : PySem.W.Frag) (mg : Str → Option Value) (base : Heap) (k : Nat) (C m : Str) (ps : List Str) (sp : Sp) : Prop where
  ok : FnOk P w K mg base (L2.CX P w) k (ma K (ga K C) m) (fdAt K (ma K (ga K C) m)) ps sp
  bd : Bnd (fdAt K (ma K (ga K C) m)) ps
  me : Meth K (ga K C) m (ma K (ga K C) m)
  cl : Cls K (ga K C)
/-- the __init__ of a class -/
structure Mi (P : Program) (w : World) (K : PySem.W.Frag) (mg : Str → Option Value) (base : Heap) (k : Nat) (C : Str) (ps : List Str) (sp : Sp) : Prop where
  ok : FnOk P w K mg base (L2.CX P w) k (ma K (ga K C) "__init__") (fdAt K (ma K (ga K C) "__init__")) ps sp
  bd : Bnd (fdAt K (ma K (ga K C) "__init__")) ps
  mkr : Mk K (ga K C) (ma K (ga K C) "__init__")
  at_ : mg C = some (.ref (ga K C))
section
variable {fa : List Fa} {fn : List DefD} {xl : List Str} {P : Program} {w : World} {K : PySem.W.Frag} {mg : Str → Option Value} {base : Heap}
theorem Told.mkAny (T : Told fa fn xl K mg) (i : Nat) {d : DefD} {f : Addr} {N ps : List Str} {k : Nat} {sp : Sp} (hd : fn[i]? = some d) (hx : fAd K d.at_ = f) (h0 : d.dfl = []) (h1 : d.kwd = []) (S : FnScope N ps d.scope)
    (bnd : ∀ (kV doc pm : Value) (an : Option Addr) (cdv ct : Value) (us : List Value), us.length = ps.length → bindArgs (PySem.W.fnOf d.name d.qual d.params d.body d.scope .none kV doc pm an cdv ct) ⟨us, []⟩ = pure (ps.zip us))
    (len : ∀ vs H Q E, sp vs H Q E → vs.length = ps.length)
    (body : ∀ (cdv : Value) (A : Around) (outer : List Env) (s : Shared) (H : Hp) (vs : List V) (Q : VK) (E : XK), Room k (A.deeper (envOfC d.qual d.scope s.heap.objs.size f cdv)) → sp vs H Q E →
      ∃ t, PSs (cxOf (L2.CX P w) P w K mg base N d.qual d.scope f cdv A outer s H E) d.body t ∧ t { nx := fun _ H' => Q .non H', rt := Q } (start N vs) H) : FnOk P w K mg base (L2.CX P w) (k + 1) f (fdAt K f) ps sp ∧ Bnd (fdAt K f) ps := by
  obtain ⟨fd, F⟩ := T.says.def_ i hd
  have e0 : d.dvs K = [] := by unfold DefD.dvs; rw [h0]; rfl
  have e1 : d.kws K = [] := by unfold DefD.kws; rw [h1]; rfl
  rw [hx, e0, e1] at F
  have ef := fdAt_of F
  subst ef
  exact ⟨F.ok S len body, F.bindsA bnd⟩
theorem Told.mkMt (T : Told fa fn xl K mg) (i j l : Nat) {d : DefD} {C m : Str} {N ps : List Str} {k : Nat} {sp : Sp} (hd : fn[i]? = some d) (hx : d.at_ = (C, some m)) (h0 : d.dfl = []) (h1 : d.kwd = []) (hg : fa[j]? = some (.meth C m)) (hc : fa[l]? = some (.cls C)) (S : FnScope N ps d.scope)
    (bnd : ∀ (kV doc pm : Value) (an : Option Addr) (cdv ct : Value) (us : List Value), us.length = ps.length → bindArgs (PySem.W.fnOf d.name d.qual d.params d.body d.scope .none kV doc pm an cdv ct) ⟨us, []⟩ = pure (ps.zip us))
    (len : ∀ vs H Q E, sp vs H Q E → vs.length = ps.length)
    (body : ∀ (cdv : Value) (A : Around) (outer : List Env) (s : Shared) (H : Hp) (vs : List V) (Q : VK) (E : XK), Room k (A.deeper (envOfC d.qual d.scope s.heap.objs.size (ma K (ga K C) m) cdv)) → sp vs H Q E →
      ∃ t, PSs (cxOf (L2.CX P w) P w K mg base N d.qual d.scope (ma K (ga K C) m) cdv A outer s H E) d.body t ∧ t { nx := fun _ H' => Q .non H', rt := Q } (start N vs) H) : Mt P w K mg base (k + 1) C m ps sp := by
  obtain ⟨a, b⟩ := T.mkAny (P := P) (w := w) (base := base) i hd (by rw [hx]; rfl) h0 h1 S bnd len body
  exact ⟨a, b, He.meth_ok (T.says.fact j hg), T.cls l hc⟩
theorem Told.mkMi (T : Told fa fn xl K mg) (i j l : Nat) {d : DefD} {C : Str} {N ps : List Str} {k : Nat} {sp : Sp} (hd : fn[i]? = some d) (hx : d.at_ = (C, some ("__init__" : Str))) (h0 : d.dfl = []) (h1 : d.kwd = []) (hg : fa[j]? = some (.mkr C)) (hc : fa[l]? = some (.glo C)) (S : FnScope N ps d.scope)
    (bnd : ∀ (kV doc pm : Value) (an : Option Addr) (cdv ct : Value) (us : List Value), us.length = ps.length → bindArgs (PySem.W.fnOf d.name d.qual d.params d.body d.scope .none kV doc pm an cdv ct) ⟨us, []⟩ = pure (ps.zip us))
    (len : ∀ vs H Q E, sp vs H Q E → vs.length = ps.length)
    (body : ∀ (cdv : Value) (A : Around) (outer : List Env) (s : Shared) (H : Hp) (vs : List V) (Q : VK) (E : XK), Room k (A.deeper (envOfC d.qual d.scope s.heap.objs.size (ma K (ga K C) "__init__") cdv)) → sp vs H Q E →
      ∃ t, PSs (cxOf (L2.CX P w) P w K mg base N d.qual d.scope (ma K (ga K C) "__init__") cdv A outer s H E) d.body t ∧ t { nx := fun _ H' => Q .non H', rt := Q } (start N vs) H) : Mi P w K mg base (k + 1) C ps sp := by
  obtain ⟨a, b⟩ := T.mkAny (P := P) (w := w) (base := base) i hd (by rw [hx]; rfl) h0 h1 S bnd len body
  exact ⟨a, b, He.mkr_ok (T.says.fact j hg), T.glo l hc⟩
end
/-- x is an instance of the class at C, its attributes none of the name m -/
def Recv (C : Addr) (m : Str) (x : V) (H : Hp) : Prop := ∃ a dx fs, x = .ref a ∧ H a = some (.ins C dx fs) ∧ fs.lookup m = none
theorem recv {C : Addr} {m : Str} {a dx : Addr} {H : Hp} {fs : List (Str × V)} (h : H a = some (.ins C dx fs)) (e : fs.lookup m = none := by rfl) : Recv C m (.ref a) H := ⟨a, dx, fs, rfl, h, e⟩
section
variable {X : Cx} {k : Nat} {C m : Str} {ps : List Str} {sp : Sp} {W : WX} {p pos apos : Pos} {o e : Expr} {es : List Expr} {ta : TE} {t : TA}
def gMeth (C : Addr) (m : Str) (sp : Sp) (W : WX) (ta : TE) (t : TA) : TE := fun σ H Q => ta σ H fun x H1 => Recv C m x H1 ∧ t σ H1 fun vs H2 => sp (x :: vs) H2 Q fun c d H3 => W c d σ H3
theorem pe_mt {pl : Sem Bool} {K : PySem.W.Frag} (hK : X.K = K) (tk : Takes X W) (he : PE X o ta) (F : Mt X.prog X.w K X.mg X.base k C m ps sp) (hr : Room k X.A) (ha : PA X (e :: es) t)
    (hst : starEach (e :: es) X.env = (false, eval e X.env) :: starEach es X.env := by rfl) (hpl : (backTo pos (starEach es X.env)).any (·.1) = false := by rfl)
    (ht : eval (.Call (.Attribute o m apos) (e :: es) [] pos) X.env = (do
      let z ← eval o X.env
      standAt apos.atName
      let (g, one) ← holding [z] (getMethod z m pl)
      callWith pos g one (backTo pos (starEach (e :: es) X.env)) (backToKw pos (keywordEach [] X.env))) := by rfl) :
    PE X (.Call (.Attribute o m apos) (e :: es) [] pos) (gMeth (ga K C) m sp W ta t) := by
  subst hK
  refine ⟨fun pins s σ H Q I h => ?_⟩
  refine PySem.W.methodCall_KW (pl := pl) (thn (he.run pins s σ H _ I h) fun u s1 hh => ?_) ht
  obtain ⟨y, H1, I1, ry, ⟨a, dx, fs, ey, ea, l⟩, q⟩ := hh
  subst ey
  obtain rfl : u = Value.ref a := ry
  refine getmeth_ok I1 ea F.cl F.me l ?_
  refine PySem.W.callWith_K (first := [.ref a]) (h₀ := X.base) I.ok.mod.kin F.me.kp (thn (ha.run pos pins s1 σ H1 _ I1 q) fun us s2 h2 => ?_) hst hpl
  obtain ⟨vs, H2, I2, r, q2⟩ := h2
  exact ⟨I2.kIn, run_fnS (us := .ref a :: us) (vs := .ref a :: vs) (E := WE W) F.ok hr F.bd.to (passAt tk σ) I2 (.cons rfl r) q2⟩
theorem pe_mt0 {pl : Sem Bool} {K : PySem.W.Frag} (hK : X.K = K) (tk : Takes X W) (he : PE X o ta) (F : Mt X.prog X.w K X.mg X.base k C m ps sp) (hr : Room k X.A)
    (ht : eval (.Call (.Attribute o m apos) [] [] pos) X.env = (do
      let z ← eval o X.env
      standAt apos.atName
      let (g, one) ← holding [z] (getMethod z m pl)
      callWith pos g one (backTo pos (starEach [] X.env)) (backToKw pos (keywordEach [] X.env))) := by rfl) :
    PE X (.Call (.Attribute o m apos) [] [] pos) (gMeth (ga K C) m sp W ta tNil) := by
  subst hK
  refine ⟨fun pins s σ H Q I h => ?_⟩
  refine PySem.W.methodCall_KW (pl := pl) (thn (he.run pins s σ H _ I h) fun u s1 hh => ?_) ht
  obtain ⟨y, H1, I1, ry, ⟨a, dx, fs, ey, ea, l⟩, q⟩ := hh
  subst ey
  obtain rfl : u = Value.ref a := ry
  refine getmeth_ok I1 ea F.cl F.me l ?_
  exact PySem.W.callWith_K0 (first := [.ref a]) I1.kIn F.me.kp (run_fnS (us := [.ref a]) (vs := [.ref a]) (E := WE W) F.ok hr F.bd.to (passAt tk σ) I1 (.cons rfl .nil) q)
theorem pe_mk {K : PySem.W.Frag} (hK : X.K = K) (tk : Takes X W) (F : Mi X.prog X.w K X.mg X.base k C ps sp) (hr : Room (k + 1) X.A) (hg : Gl X C) (ha : PA X (e :: es) t) (hdb : (C == ("__debug__" : Str)) = false := by decide)
    (he : starEach (e :: es) X.env = (false, eval e X.env) :: starEach es X.env := by rfl) (hpl : (backTo pos (starEach es X.env)).any (·.1) = false := by rfl) : PE X (.Call (.Name C p) (e :: es) [] pos) (tMakeW (ga K C) sp W t) := by
  subst hK
  exact pe_makeW tk F.mkr F.ok hr hg F.at_ F.bd.to ha hdb he hpl
theorem pe_mk0 {K : PySem.W.Frag} (hK : X.K = K) (tk : Takes X W) (F : Mi X.prog X.w K X.mg X.base k C ps sp) (hr : Room (k + 1) X.A) (hg : Gl X C) (hdb : (C == ("__debug__" : Str)) = false := by decide) : PE X (.Call (.Name C p) [] [] pos) (tMakeW (ga K C) sp W tNil) := by
  subst hK
  exact pe_makeW0 tk F.mkr F.ok hr hg F.at_ F.bd.to hdb
/-- least, greatest of two -/
def gMin : List V → Hp → VK → Prop
  | [.int i, .int j], H, Q => Q (.int (min i j)) H
  | _, _, _ => False
def gMax : List V → Hp → VK → Prop
  | [.int i, .int j], H, Q => Q (.int (max i j)) H
  | _, _, _ => False
theorem call_gMin (hc : X.calm = true) : CallR X (.builtin "min") gMin := by
  intro pins s σ H xs us Q I r h
  unfold gMin at h
  split at h
  · rename_i i j
    refine call_min2 hc pins s σ _ _ us Q I r ⟨i, j, rfl, ?_⟩
    have e : (if j < i then j else i) = min i j := by split <;> omega
    rw [e]
    exact h
  · exact h.elim
theorem call_gMax (hc : X.calm = true) : CallR X (.builtin "max") gMax := by
  intro pins s σ H xs us Q I r h
  unfold gMax at h
  split at h
  · rename_i i j
    refine call_max2 hc pins s σ _ _ us Q I r ⟨i, j, rfl, ?_⟩
    have e : (if j > i then j else i) = max i j := by split <;> omega
    rw [e]
    exact h
  · exact h.elim
end
section
variable {σ : L2.St} {H : Hp} {Q : VK} {D : Ends} {C : Addr} {f m : Str} {ta tv : TE} {as : TA} {sp : Sp} {W : WX} {a b : Int} {y x i : V} {S : TSet}
theorem x_fld : gFld C ta f σ H Q = ta σ H fun x H1 => ∃ v, FldIs C f x H1 v ∧ Q v H1 := rfl
theorem x_setF : gSetF C ta tv f D σ H = tv σ H fun y H1 => ta σ H1 fun x H2 => ∃ a dx fs, x = .ref a ∧ H2 a = some (.ins C dx fs) ∧ fs.length < 1000 ∧ D.nx σ (upd H2 a (.ins C dx (putF f y fs))) := rfl
theorem x_meth : gMeth C m sp W ta as σ H Q = ta σ H fun x H1 => Recv C m x H1 ∧ as σ H1 fun vs H2 => sp (x :: vs) H2 Q fun c d H3 => W c d σ H3 := rfl
theorem x_make : tMakeW C sp W as σ H Q = as σ H fun vs H1 => ∀ x dx, H1 x = none → H1 dx = none → dx ≠ x → sp (.ref x :: vs) (upd (upd H1 dx (.own x)) x (.ins C dx [])) (fun v H2 => v = .non ∧ Q (.ref x) H2) fun c d H3 => W c d σ H3 := rfl
theorem x_sub {to ti : TE} {N : L2.St → Hp → Prop} : gSub to ti S y σ H N = to σ H fun o H1 => ti σ H1 fun i H2 => S o i y H2 fun H3 => N σ H3 := rfl
theorem r_min : gMin [.int a, .int b] H Q = Q (.int (min a b)) H := rfl
theorem r_max : gMax [.int a, .int b] H Q = Q (.int (max a b)) H := rfl
/-- a store to a list at i -/
theorem r_setL {p : Addr} {xs : List V} {k : Int} {N : Hp → Prop} (h : H p = some (.lst xs)) (h0 : 0 ≤ k) (h1 : k < xs.length) (q : N (upd H p (.lst (xs.set k.toNat y)))) : rSetL (.ref p) (.int k) y H N :=
  ⟨p, xs, k, k.toNat, rfl, rfl, h, by unfold ixN; rw [if_pos h0, if_pos h1], q⟩
end
end G
namespace G
open PySem PySem.Spec PyProof.Rows L2
/-! ## comprehensions whose parts leave the heap as it is -/
section
variable {σ : L2.St} {vs : List Nat} {H1 : Hp} {D : Addr} {Qd : Hp → Prop} {te : TE} {tt : TT} {k : Nat} {f : Nat → V} {K : PySem.W.Frag} {a : Addr} {xs : List V}
theorem tYes_on {σ2 : L2.St} {H : Hp} {A B : Hp → Prop} (h : A H) : tYes σ2 H fun b H3 => if b = true then A H3 else B H3 := by
  show (if true = true then A H else B H)
  rw [if_pos (rfl : true = true)]
  exact h
/-- [e for x in range(..)] -/
theorem lc_mapR {lo : Int} {n : Nat} (f : Nat → V) (hw : ∀ v, wipe ((wipe σ vs).set k (some v)) vs = wipe σ vs) (hn : n ≤ sizeLine)
    (he : ∀ i, i < n → ∀ acc (Q : VK), Q (f i) (upd H1 D (.lst acc)) → te ((wipe σ vs).set k (some (.int (lo + i)))) (upd H1 D (.lst acc)) Q) (hd : Qd (upd H1 D (.lst ((List.range n).map f)))) :
    ∃ W : Nat → Nat → Hp → Prop, (∃ m, W 0 m (upd H1 D (.lst []))) ∧ ∀ i m H, W i m H →
      ((Itr lo n).stop i H ∧ Qd H) ∨ ((Itr lo n).go i H ∧ ∃ Nx : Hp → Prop, (∀ H', Nx H' → ∃ m', m' < m ∧ W (i + 1) m' H') ∧ ∀ x H', (Itr lo n).yld i H x H' → gName k x (wipe σ vs) H' fun σ2 H2 => wipe σ2 vs = wipe σ vs ∧ tYes σ2 H2 fun b H3 =>
        if b = true then te σ2 H3 fun y H4 => ∃ acc, H4 D = some (.lst acc) ∧ acc.length < sizeLine ∧ Nx (upd H4 D (.lst (acc ++ [y]))) else Nx H3) := by
  refine lc_range (Qd := Qd) (fun i H => H = upd H1 D (.lst ((List.range i).map f))) rfl ?_ fun H e => by rw [e]; exact hd
  rintro i H hi rfl
  refine ⟨hw _, tYes_on (he i hi _ _ ⟨_, upd_same, by rw [List.length_map, List.length_range]; omega, ?_⟩)⟩
  rw [upd_upd, List.range_succ, List.map_append]
  rfl
/-- [e for x in xs] -/
theorem lc_mapL {ys : List V} (hw : ∀ v, wipe ((wipe σ vs).set k (some v)) vs = wipe σ vs) (hl : ∀ acc, SqL K (upd H1 D (.lst acc)) a xs) (hn : xs.length ≤ sizeLine) (hy : ys.length = xs.length)
    (he : ∀ (i : Nat) (x y : V), xs[i]? = some x → ys[i]? = some y → ∀ acc (Q : VK), Q y (upd H1 D (.lst acc)) → te ((wipe σ vs).set k (some x)) (upd H1 D (.lst acc)) Q) (hd : Qd (upd H1 D (.lst ys))) :
    ∃ W : Nat → Nat → Hp → Prop, (∃ m, W 0 m (upd H1 D (.lst []))) ∧ ∀ i m H, W i m H →
      ((Itl K a).stop i H ∧ Qd H) ∨ ((Itl K a).go i H ∧ ∃ Nx : Hp → Prop, (∀ H', Nx H' → ∃ m', m' < m ∧ W (i + 1) m' H') ∧ ∀ x H', (Itl K a).yld i H x H' → gName k x (wipe σ vs) H' fun σ2 H2 => wipe σ2 vs = wipe σ vs ∧ tYes σ2 H2 fun b H3 =>
        if b = true then te σ2 H3 fun y H4 => ∃ acc, H4 D = some (.lst acc) ∧ acc.length < sizeLine ∧ Nx (upd H4 D (.lst (acc ++ [y]))) else Nx H3) := by
  refine lc_list (Qd := Qd) (xs := xs) (fun i H => H = upd H1 D (.lst (ys.take i))) (by rfl) (fun i H _ e => by rw [e]; exact hl _) ?_ fun H e => by
    rw [e, ← hy, List.take_length]
    exact hd
  rintro i x H hi rfl
  have hlt : i < ys.length := by rw [hy]; exact (List.getElem?_eq_some_iff.mp hi).1
  refine ⟨hw _, tYes_on (he i x ys[i] hi (List.getElem?_eq_getElem hlt) _ _ ⟨_, upd_same, by rw [List.length_take]; omega, ?_⟩)⟩
  rw [upd_upd, List.take_succ_eq_append_getElem hlt]
/-- [e for x in xs if t], ys the kept ones, by the places of what is kept -/
theorem lc_iffL {g : V → Option V} (hw : ∀ v, wipe ((wipe σ vs).set k (some v)) vs = wipe σ vs) (hl : ∀ acc, SqL K (upd H1 D (.lst acc)) a xs) (hn : xs.length ≤ sizeLine)
    (he : ∀ (i : Nat) (x : V), xs[i]? = some x → ∀ acc (N : Bool → Hp → Prop), ((g x).isSome = true → N true (upd H1 D (.lst acc))) → ((g x).isSome = false → N false (upd H1 D (.lst acc))) → tt ((wipe σ vs).set k (some x)) (upd H1 D (.lst acc)) N)
    (hy : ∀ (i : Nat) (x y : V), xs[i]? = some x → g x = some y → ∀ acc (Q : VK), Q y (upd H1 D (.lst acc)) → te ((wipe σ vs).set k (some x)) (upd H1 D (.lst acc)) Q) (hd : Qd (upd H1 D (.lst (xs.filterMap g)))) :
    ∃ W : Nat → Nat → Hp → Prop, (∃ m, W 0 m (upd H1 D (.lst []))) ∧ ∀ i m H, W i m H →
      ((Itl K a).stop i H ∧ Qd H) ∨ ((Itl K a).go i H ∧ ∃ Nx : Hp → Prop, (∀ H', Nx H' → ∃ m', m' < m ∧ W (i + 1) m' H') ∧ ∀ x H', (Itl K a).yld i H x H' → gName k x (wipe σ vs) H' fun σ2 H2 => wipe σ2 vs = wipe σ vs ∧ tt σ2 H2 fun b H3 =>
        if b = true then te σ2 H3 fun y H4 => ∃ acc, H4 D = some (.lst acc) ∧ acc.length < sizeLine ∧ Nx (upd H4 D (.lst (acc ++ [y]))) else Nx H3) := by
  refine lc_list (Qd := Qd) (xs := xs) (fun i H => H = upd H1 D (.lst ((xs.take i).filterMap g))) (by rfl) (fun i H _ e => by rw [e]; exact hl _) ?_ fun H e => by
    rw [e, List.take_length]
    exact hd
  rintro i x H hi rfl
  have hlt : i < xs.length := (List.getElem?_eq_some_iff.mp hi).1
  have ex : xs[i] = x := by rw [List.getElem?_eq_getElem hlt] at hi; exact Option.some.inj hi
  have small : ((xs.take i).filterMap g).length < sizeLine := Nat.lt_of_le_of_lt (List.length_filterMap_le _ _) (by rw [List.length_take]; omega)
  refine ⟨hw _, he i x hi _ _ (fun c => ?_) fun c => ?_⟩
  · obtain ⟨y, ey⟩ := Option.isSome_iff_exists.mp c
    rw [if_pos (rfl : true = true)]
    refine hy i x y hi ey _ _ ⟨_, upd_same, small, ?_⟩
    rw [upd_upd, List.take_succ_eq_append_getElem hlt, List.filterMap_append, ex]
    simp only [List.filterMap_cons, ey, List.filterMap_nil]
  · rw [if_neg Bool.false_ne_true, List.take_succ_eq_append_getElem hlt, List.filterMap_append, ex]
    have e0 : g x = none := by cases e : g x with
      | none => rfl
      | some y => rw [e] at c; cases c
    simp only [List.filterMap_cons, e0, List.filterMap_nil, List.append_nil]
end
/-- a statement, then the rest, by what holds between them -/
def tCut (t u : TS) : TS := fun D σ H => ∃ M : L2.St → Hp → Prop, t { D with nx := M } σ H ∧ ∀ σ' H', M σ' H' → u D σ' H'
theorem pss_cut {X : Cx} {st : Stmt} {rest : List Stmt} {t u : TS} (h1 : PS X st t) (h2 : PSs X rest u) : PSs X (st :: rest) (tCut t u) := by
  refine ⟨fun pins s σ H D I h => ?_⟩
  obtain ⟨M, a, b⟩ := h
  refine wpAny_execs_cons (thn (h1.run pins s σ H { D with nx := M } I a) fun f s1 q => ?_)
  cases f with
  | next => exact q.elim fun σ1 z => z.elim fun H1 y => h2.run pins s1 σ1 H1 D y.1 (b σ1 H1 y.2)
  | ret v => exact q
  | brk => exact q
  | cont => exact q
/-- what is wanted of a loop over J; of a comprehension -/
def ForW (J : It) (g : TG) (tb : TS) (D : Ends) (σ : L2.St) (H : Hp) : Prop := ∃ W : Nat → Nat → L2.St → Hp → Prop, (∃ m, W 0 m σ H) ∧ ∀ i m σ H, W i m σ H →
  (J.stop i H ∧ D.nx σ H) ∨ (J.go i H ∧ ∃ N : L2.St → Hp → Prop, (∀ σ' H', N σ' H' → ∃ m', m' < m ∧ W (i + 1) m' σ' H') ∧ ∀ x H', J.yld i H x H' → g x σ H' fun σ2 H2 => tb { D with nx := N, ct := N, bk := D.nx } σ2 H2)
def LcW (J : It) (g : TG) (tt : TT) (te : TE) (vs : List Nat) (σ : L2.St) (H1 : Hp) (Q : VK) : Prop := ∀ D, H1 D = none → ∃ W : Nat → Nat → Hp → Prop, (∃ m, W 0 m (upd H1 D (.lst []))) ∧ ∀ i m H, W i m H →
  (J.stop i H ∧ Q (.ref D) H) ∨ (J.go i H ∧ ∃ Nx : Hp → Prop, (∀ H', Nx H' → ∃ m', m' < m ∧ W (i + 1) m' H') ∧ ∀ x H', J.yld i H x H' → g x (wipe σ vs) H' fun σ2 H2 => wipe σ2 vs = wipe σ vs ∧ tt σ2 H2 fun b H3 =>
    if b = true then te σ2 H3 fun y H4 => ∃ acc, H4 D = some (.lst acc) ∧ acc.length < sizeLine ∧ Nx (upd H4 D (.lst (acc ++ [y]))) else Nx H3)
section
variable {σ : L2.St} {H : Hp} {Q : VK} {D : Ends} {wi : TI} {g : TG} {tb : TS} {tt : TT} {te : TE} {ta : TA} {vs : List Nat} {R : It → Hp → Prop} {K : PySem.W.Frag} {a b : Addr} {n m : Int}
theorem x_for : tFor wi g tb D σ H = wi σ H fun J H1 => ForW J g tb D σ H1 := rfl
theorem x_lc : tLc wi g tt te vs σ H Q = wi σ H fun J H1 => LcW J g tt te vs σ H1 Q := rfl
theorem x_rng1 : iRng1 ta σ H R = ta σ H fun vs H1 => ∃ j : Int, vs = [.int j] ∧ -(2 ^ 62) ≤ j ∧ j < 2 ^ 62 ∧ R (Itr 0 j.toNat) H1 := rfl
theorem x_rng2 : iRng2 ta σ H R = ta σ H fun vs H1 => ∃ i j : Int, vs = [.int i, .int j] ∧ (-(2 ^ 62) ≤ i ∧ i < 2 ^ 62 ∧ -(2 ^ 62) ≤ j ∧ j < 2 ^ 62) ∧ R (Itr i (j - i).toNat) H1 := rfl
theorem x_lst1 {tl : TE} : iList K tl σ H R = tl σ H fun x H1 => ∃ a, x = .ref a ∧ (∃ xs, SqL K H1 a xs) ∧ R (Itl K a) H1 := rfl
theorem x_one {P : Int → Prop} : (∃ j : Int, [V.int n] = [V.int j] ∧ P j) = P n := propext ⟨fun ⟨_, e, q⟩ => by cases e; exact q, fun q => ⟨n, rfl, q⟩⟩
theorem x_two {P : Int → Int → Prop} : (∃ i j : Int, [V.int n, V.int m] = [V.int i, V.int j] ∧ P i j) = P n m := propext ⟨fun ⟨_, _, e, q⟩ => by cases e; exact q, fun q => ⟨n, m, rfl, q⟩⟩
theorem x_adr {P : Addr → Prop} : (∃ b, V.ref a = V.ref b ∧ P b) = P a := propext ⟨fun ⟨_, e, q⟩ => by cases e; exact q, fun q => ⟨a, rfl, q⟩⟩
theorem x_sl {r : V → Option Int → Option Int → Hp → VK → Prop} {tl th : TO} : tSl r te tl th σ H Q = te σ H fun x H1 => tl σ H1 fun l H2 => th σ H2 fun u H3 => r x l u H3 Q := rfl
theorem x_np {QO : Option Int → Hp → Prop} : tNoPart σ H QO = QO none H := rfl
theorem x_pt {QO : Option Int → Hp → Prop} : tPart te σ H QO = te σ H fun x H1 => ∃ i, x = .int i ∧ QO (some i) H1 := rfl
theorem x_int {P : Int → Prop} : (∃ j : Int, V.int n = V.int j ∧ P j) = P n := propext ⟨fun ⟨_, e, q⟩ => by cases e; exact q, fun q => ⟨n, rfl, q⟩⟩
theorem x_bm {T : String} {r : V → List V → Hp → VK → Prop} : tBM K T r te ta σ H Q = te σ H fun x H1 => tyV K T x H1 ∧ ta σ H1 fun xs H2 => r x xs H2 Q := rfl
theorem x_bm0 {T : String} {r : V → List V → Hp → VK → Prop} : tBM0 K T r te σ H Q = te σ H fun x H1 => tyV K T x H1 ∧ r x [] H1 Q := rfl
theorem x_tupg {ts : TGs} {n : Nat} {v : V} {N : L2.St → Hp → Prop} : gTup K n ts v σ H N = ∃ a xs, v = .ref a ∧ SqT K H a xs ∧ xs.length = n ∧ ts xs σ H N := rfl
theorem x_consg {t : TG} {u : TGs} {v : V} {r : List V} {N : L2.St → Hp → Prop} : gCons t u (v :: r) σ H N = t v σ H fun σ' H' => u r σ' H' N := propext ⟨fun ⟨_, _, e, q⟩ => by cases e; exact q, fun q => ⟨v, r, rfl, q⟩⟩
theorem x_nilg {N : L2.St → Hp → Prop} : gNil [] σ H N = N σ H := propext ⟨fun z => z.2, fun z => ⟨rfl, z⟩⟩
theorem x_cut {t u : TS} : tCut t u D σ H = ∃ M : L2.St → Hp → Prop, t { D with nx := M } σ H ∧ ∀ σ' H', M σ' H' → u D σ' H' := rfl
theorem x_dget2 {td ty tx : TE} : tDGet2 td ty tx σ H Q = td σ H fun x H1 => ∃ a, x = .ref a ∧ IsD H1 a ∧ ty σ H1 fun y H2 => tx σ H2 fun z H3 => ∃ o, DGet H3 a y o ∧ Q (o.getD z) H3 := rfl
theorem x_dget1 {td ty : TE} : tDGet1 td ty σ H Q = td σ H fun x H1 => ∃ a, x = .ref a ∧ IsD H1 a ∧ ty σ H1 fun y H2 => ∃ o, DGet H2 a y o ∧ Q (o.getD .non) H2 := rfl
theorem x_dget {td ty : TE} : tDGet td ty σ H Q = td σ H fun x H1 => ty σ H1 fun y H2 => ∃ a v, x = .ref a ∧ DGet H2 a y (some v) ∧ Q v H2 := rfl
theorem x_din {td ty : TE} : tDIn ty td σ H Q = ty σ H fun y H1 => td σ H1 fun x H2 => ∃ a o, x = .ref a ∧ DGet H2 a y o ∧ Q (.bl o.isSome) H2 := rfl
theorem x_dni {td ty : TE} : tDNotIn ty td σ H Q = ty σ H fun y H1 => td σ H1 fun x H2 => ∃ a o, x = .ref a ∧ DGet H2 a y o ∧ Q (.bl (!o.isSome)) H2 := rfl
theorem x_dput {td ty tv : TE} : sDPut td ty tv D σ H = tv σ H fun v H1 => td σ H1 fun x H2 => ty σ H2 fun y H3 => ∃ a H4, x = .ref a ∧ DPut H3 a y v H4 ∧ D.nx σ H4 := rfl
theorem isD_k {kvs : List (Key × V)} (h : H a = some (.dK kvs)) : IsD H a := .inl ⟨kvs, .inl h⟩
theorem dget_i {kvs : List (Key × V)} {i : Int} (h : H a = some (.dK kvs)) : DGet H a (.int i) (valV kvs (.inl i : Key)) := DGet.k (k := .inl i) h
theorem dput_i {kvs : List (Key × V)} {i : Int} {v : V} (h : H a = some (.dK kvs)) (hl : kvs.length < sizeLine) : DPut H a (.int i) v (upd H a (.dK (putK kvs (.inl i : Key) v))) := DPut.k (k := .inl i) h hl
theorem forW_range {lo : Int} {n : Nat} (Pv : Nat → L2.St → Hp → Prop) (h0 : Pv 0 σ H) (hs : ∀ i σ H, i < n → Pv i σ H → g (.int (lo + i)) σ H fun σ2 H2 => tb { D with nx := Pv (i + 1), ct := Pv (i + 1), bk := D.nx } σ2 H2) (hd : ∀ σ H, Pv n σ H → D.nx σ H) : ForW (Itr lo n) g tb D σ H := for_range Pv h0 hs hd
theorem forW_list {xs : List V} (Pv : Nat → L2.St → Hp → Prop) (h0 : Pv 0 σ H) (hl : ∀ i σ H, i ≤ xs.length → Pv i σ H → SqL K H a xs) (hs : ∀ i x σ H, xs[i]? = some x → Pv i σ H → g x σ H fun σ2 H2 => tb { D with nx := Pv (i + 1), ct := Pv (i + 1), bk := D.nx } σ2 H2)
    (hd : ∀ σ H, Pv xs.length σ H → D.nx σ H) : ForW (Itl K a) g tb D σ H := for_list (xs := xs) Pv h0 hl hs hd
end
theorem x_yes {σ : L2.St} {H : Hp} {Q : Bool → Hp → Prop} : tYes σ H Q = Q true H := rfl
end G
namespace G
open PySem PySem.Spec PySem.Calls PyProof.Rows L2
/-! ### more shapes of loops, of targets -/
section
variable {σ : L2.St} {H : Hp} {Q : VK} {D : Ends} {g : TG} {tb : TS} {tl : TE} {ta : TA} {R : It → Hp → Prop} {K : PySem.W.Frag} {a : Addr}
theorem x_itup : iTup K tl σ H R = tl σ H fun x H1 => ∃ a, x = .ref a ∧ (∃ xs, SqT K H1 a xs) ∧ R (Itt K a) H1 := rfl
theorem x_rng3 : iRng3 ta σ H R = ta σ H fun vs H1 => ∃ (i j c : Int) (n : Nat), vs = [.int i, .int j, .int c] ∧ RgC i j c n ∧ R (Itc i c n) H1 := rfl
theorem x_three {x y z : Int} {P : Int → Int → Int → Nat → Prop} : (∃ (i j c : Int) (n : Nat), [V.int x, V.int y, V.int z] = [.int i, .int j, .int c] ∧ P i j c n) = ∃ n, P x y z n :=
  propext ⟨fun ⟨_, _, _, n, e, q⟩ => by cases e; exact ⟨n, q⟩, fun ⟨n, q⟩ => ⟨x, y, z, n, rfl, q⟩⟩
theorem x_lstg {ts : TGs} {n : Nat} {v : V} {N : L2.St → Hp → Prop} : gLst K n ts v σ H N = ∃ a xs, v = .ref a ∧ SqL K H a xs ∧ xs.length = n ∧ ts xs σ H N := rfl
theorem x_adrS {β : Type} {P : Addr → β → Prop} : (∃ b xs, V.ref a = V.ref b ∧ P b xs) = ∃ xs, P a xs := propext ⟨fun ⟨_, xs, e, q⟩ => by cases e; exact ⟨xs, q⟩, fun ⟨xs, q⟩ => ⟨a, xs, rfl, q⟩⟩
theorem forW_tup {xs : List V} (Pv : Nat → L2.St → Hp → Prop) (h0 : Pv 0 σ H) (hl : ∀ i σ H, i ≤ xs.length → Pv i σ H → SqT K H a xs) (hs : ∀ i x σ H, xs[i]? = some x → Pv i σ H → g x σ H fun σ2 H2 => tb { D with nx := Pv (i + 1), ct := Pv (i + 1), bk := D.nx } σ2 H2)
    (hd : ∀ σ H, Pv xs.length σ H → D.nx σ H) : ForW (Itt K a) g tb D σ H := for_tup (xs := xs) Pv h0 hl hs hd
theorem forW_step {lo c : Int} {n : Nat} (Pv : Nat → L2.St → Hp → Prop) (h0 : Pv 0 σ H) (hs : ∀ i σ H, i < n → Pv i σ H → g (.int (lo + (i : Nat) * c)) σ H fun σ2 H2 => tb { D with nx := Pv (i + 1), ct := Pv (i + 1), bk := D.nx } σ2 H2)
    (hd : ∀ σ H, Pv n σ H → D.nx σ H) : ForW (Itc lo c n) g tb D σ H := for_rangeC Pv h0 hs hd
end
end G
namespace G
open PySem PySem.Spec PySem.Calls PyProof.Rows L2 He
/-! ### is True, in, sorted, all -/
section
variable {X : Cx} {K : PySem.W.Frag}
def gIsB : R2 := fun x y H Q => ∃ b, y = .bl b ∧ Q (.bl (decide (x = .bl b))) H
def gNotB : R2 := fun x y H Q => ∃ b, y = .bl b ∧ Q (.bl (!decide (x = .bl b))) H
theorem relV_bl {x : V} {b : Bool} (r : RelV x (.bool b)) : x = .bl b := by
  cases x with
  | bl c => cases r; rfl
  | int i => obtain ⟨t, e⟩ := r; cases e
  | str i => obtain ⟨t, e⟩ := r; cases e
  | byt i => obtain ⟨t, e⟩ := r; cases e
  | flt i => obtain ⟨t, e⟩ := r; cases e
  | non => cases r
  | ref a => cases r
  | ty n => cases r
theorem relV_plain {x : V} {v : Value} {b : Bool} (r : RelV x v) : plainIs v (.bool b) = true := by
  cases x with
  | bl c => cases r; rfl
  | int i => obtain ⟨t, e⟩ := r; subst e; rfl
  | str i => obtain ⟨t, e⟩ := r; subst e; rfl
  | byt i => obtain ⟨t, e⟩ := r; subst e; rfl
  | flt i => obtain ⟨t, e⟩ := r; subst e; rfl
  | non => cases r; rfl
  | ref a => cases r; rfl
  | ty n => cases r; rfl
theorem op_gIsB : OpR X (compareOp .Is) gIsB := by
  intro pins s σ H x y v u Q I rx ry h
  obtain ⟨b, rfl, q⟩ := h
  cases (show u = Value.bool b from ry)
  by_cases e : v = .bool b
  · subst e
    have ex := relV_bl rx
    exact wpAny_is_self rfl ⟨.bl true, H, I, rfl, by rw [decide_eq_true ex] at q; exact q⟩
  · have ex : ¬ x = .bl b := fun z => e (by subst z; exact rx)
    exact wpAny_is_other (relV_plain rx) e ⟨.bl false, H, I, rfl, by rw [decide_eq_false ex] at q; exact q⟩
theorem op_gNotB : OpR X (compareOp .IsNot) gNotB := by
  intro pins s σ H x y v u Q I rx ry h
  obtain ⟨b, rfl, q⟩ := h
  cases (show u = Value.bool b from ry)
  by_cases e : v = .bool b
  · subst e
    have ex := relV_bl rx
    exact wpAny_isNot_self rfl ⟨.bl false, H, I, rfl, by rw [decide_eq_true ex] at q; exact q⟩
  · have ex : ¬ x = .bl b := fun z => e (by subst z; exact rx)
    exact wpAny_isNot_other (relV_plain rx) e ⟨.bl true, H, I, rfl, by rw [decide_eq_false ex] at q; exact q⟩
theorem op_inK (hK : X.K = K) : OpR X (compareOp .In) (rIn K false) := hK ▸ op_in_seq
theorem op_ninK (hK : X.K = K) : OpR X (compareOp .NotIn) (rIn K true) := hK ▸ op_notIn_seq
theorem call_sortedK (hK : X.K = K) : CallR X (.builtin "sorted") (rSortedI K) := hK ▸ cr_sortedI
theorem call_allK (hK : X.K = K) (hc : X.calm = true) : CallR X (.builtin "all") (rAll K) := hK ▸ cr_all hc
theorem call_anyK (hK : X.K = K) (hc : X.calm = true) : CallR X (.builtin "any") (rAny K) := hK ▸ cr_any hc
end
section
variable {σ : L2.St} {H : Hp} {Q : VK} {x : V} {b : Bool}
theorem r_isB : gIsB x (.bl b) H Q = Q (.bl (decide (x = .bl b))) H := propext ⟨fun ⟨_, e, q⟩ => by cases e; exact q, fun q => ⟨b, rfl, q⟩⟩
theorem r_notB : gNotB x (.bl b) H Q = Q (.bl (!decide (x = .bl b))) H := propext ⟨fun ⟨_, e, q⟩ => by cases e; exact q, fun q => ⟨b, rfl, q⟩⟩
theorem x_dpop2 {td ty tx : TE} : tDPop2 td ty tx σ H Q = td σ H fun x H1 => ∃ a, x = .ref a ∧ IsD H1 a ∧ ty σ H1 fun y H2 => tx σ H2 fun z H3 => ∃ kvs k, H3 a = some (.dK kvs) ∧ y = kV k ∧
  (∀ v, valV kvs k = some v → Q v (upd H3 a (.dK (dropK kvs k)))) ∧ (valV kvs k = none → Q z H3) := rfl
theorem r_isi {v : V} {T t : String} (e : tyOf v H = some t) (q : Q (.bl (isB t T)) H) (hT : T ∈ (["int", "bool", "str", "list", "tuple", "dict"] : List String) := by decide) : gIsi [v, .ty T] H Q := ⟨hT, t, e, q⟩
theorem r_isiL {a : Addr} {xs : List V} (h : H a = some (.lst xs)) (q : Q (.bl true) H) : gIsi [.ref a, .ty "list"] H Q := r_isi (t := "list") (by show tyO (H a) = _; rw [h]; rfl) q
theorem r_isiT {a : Addr} {xs : List V} (h : H a = some (.tup xs)) (q : Q (.bl true) H) : gIsi [.ref a, .ty "tuple"] H Q := r_isi (t := "tuple") (by show tyO (H a) = _; rw [h]; rfl) q
theorem r_isiII {n : Int} : gIsi [.int n, .ty "int"] H Q = Q (.bl true) H := propext ⟨fun ⟨_, t, e, q⟩ => by cases e; exact q, fun q => ⟨by decide, _, rfl, q⟩⟩
theorem r_isiBB : gIsi [.bl b, .ty "bool"] H Q = Q (.bl true) H := propext ⟨fun ⟨_, t, e, q⟩ => by cases e; exact q, fun q => ⟨by decide, _, rfl, q⟩⟩
theorem r_isiIB {n : Int} : gIsi [.int n, .ty "bool"] H Q = Q (.bl false) H := propext ⟨fun ⟨_, t, e, q⟩ => by cases e; exact q, fun q => ⟨by decide, _, rfl, q⟩⟩
theorem r_isiSS {z : Str} : gIsi [.str z, .ty "str"] H Q = Q (.bl true) H := propext ⟨fun ⟨_, t, e, q⟩ => by cases e; exact q, fun q => ⟨by decide, _, rfl, q⟩⟩
theorem r_neNS {K : PySem.W.Frag} {z : Str} : gNe K .non (.str z) H Q = Q (.bl true) H := rfl
theorem r_neSN {K : PySem.W.Frag} {z : Str} : gNe K (.str z) .non H Q = Q (.bl true) H := rfl
theorem r_neNN {K : PySem.W.Frag} : gNe K .non .non H Q = Q (.bl false) H := rfl
theorem r_eqNS {K : PySem.W.Frag} {z : Str} : gEq K .non (.str z) H Q = Q (.bl false) H := rfl
theorem r_eqSN {K : PySem.W.Frag} {z : Str} : gEq K (.str z) .non H Q = Q (.bl false) H := rfl
theorem r_eqNN {K : PySem.W.Frag} : gEq K .non .non H Q = Q (.bl true) H := rfl
theorem r_eqIS {K : PySem.W.Frag} {n : Int} {z : Str} : gEq K (.int n) (.str z) H Q = Q (.bl false) H := rfl
theorem r_neIS {K : PySem.W.Frag} {n : Int} {z : Str} : gNe K (.int n) (.str z) H Q = Q (.bl true) H := rfl
theorem r_neSI {K : PySem.W.Frag} {n : Int} {z : Str} : gNe K (.str z) (.int n) H Q = Q (.bl true) H := rfl
theorem r_neBS {K : PySem.W.Frag} {z : Str} : gNe K (.bl b) (.str z) H Q = Q (.bl true) H := rfl
theorem r_eqBB {K : PySem.W.Frag} {c : Bool} : gEq K (.bl b) (.bl c) H Q = Q (.bl (b == c)) H := rfl
theorem r_neBB {K : PySem.W.Frag} {c : Bool} : gNe K (.bl b) (.bl c) H Q = Q (.bl (!(b == c))) H := rfl
theorem r_ixL {K : PySem.W.Frag} {a : Addr} {xs : List V} {i : Nat} {v : V} (h : H a = some (.lst xs)) (e : xs[i]? = some v) (q : Q v H) : rIx K (.ref a) (.int (i : Int)) H Q := .inl ⟨_, _, _, _, rfl, rfl, .of h, by
  have hl := (List.getElem?_eq_some_iff.mp e).1
  unfold atI ixN
  rw [if_pos (by omega), if_pos (by omega), Int.toNat_natCast]
  exact e, q⟩
end
/-! ### isinstance(e, (C, D, ..)) of a caught error -/
def tIsQ (K : PySem.W.Frag) (x : V) (cs : List V) (H : Hp) (Q : VK) : Prop := cs.length ≤ sizeLine ∧ ∃ a D us b, x = .ref a ∧ H a = some (ExA (.ref D) a) ∧ ExcC K D ∧ Paired ClsV cs us ∧ PySem.W.kitAny K (.ref D) us = some b ∧ Q (.bl b) H
theorem x_isT {K : PySem.W.Frag} {σ : L2.St} {H : Hp} {Q : VK} {ta : TE} {tc : TA} : tIsT K ta tc σ H Q = ta σ H fun x H1 => tc σ H1 fun cs H2 => tIsQ K x cs H2 Q := rfl
inductive NamesK (K : PySem.W.Frag) : List V → List Str → Prop where
  | nil : NamesK K [] []
  | cons (c : Str) {cs : List V} {ns : List Str} (t : NamesK K cs ns) : NamesK K (.ref (ga K c) :: cs) (c :: ns)
theorem NamesK.len {K : PySem.W.Frag} {cs : List V} {ns : List Str} (h : NamesK K cs ns) : cs.length = ns.length := by
  induction h with
  | nil => rfl
  | cons c t ih => exact congrArg (· + 1) ih
theorem NamesK.pair {K : PySem.W.Frag} {cs : List V} {ns : List Str} (h : NamesK K cs ns) : Paired ClsV cs (ns.map fun c => Value.ref (ga K c)) := by
  induction h with
  | nil => exact .nil
  | cons c t ih => exact .cons (.own _) ih
theorem Told.anyOf {fa : List Fa} {fn : List DefD} {xl : List Str} {K : PySem.W.Frag} {mg : Str → Option Value} (T : Told fa fn xl K mg) {d : Str} (hd : d ∈ xl) : ∀ ns : List Str, (∀ c ∈ ns, c ∈ xl) → PySem.W.kitAny K (.ref (ga K d)) (ns.map fun c => Value.ref (ga K c)) = some (ns.any (under d))
  | [], _ => rfl
  | c :: r, h => by
    show (match PySem.W.kitOne K (.ref (ga K d)) (.ref (ga K c)) with
      | some true => some true
      | some false => PySem.W.kitAny K (.ref (ga K d)) (r.map fun c => Value.ref (ga K c))
      | none => none) = some (under d c || r.any (under d))
    rw [((T.err hd).2.2 c (h c (List.mem_cons_self))).1]
    cases under d c with
    | true => rfl
    | false => exact T.anyOf hd r fun c hc => h c (List.mem_cons_of_mem _ hc)
theorem Told.isA {fa : List Fa} {fn : List DefD} {xl : List Str} {K : PySem.W.Frag} {mg : Str → Option Value} (T : Told fa fn xl K mg) {d : Str} {a : Addr} {H : Hp} {Q : VK} {cs : List V} {ns : List Str} {b : Bool} (ha : H a = some (ExA (.ref (ga K d)) a)) (n : NamesK K cs ns)
    (hd : d ∈ xl) (hc : (ns.all fun c => decide (c ∈ xl)) = true) (hl : ns.length ≤ 1000) (e : ns.any (under d) = b) (q : Q (.bl b) H) : tIsQ K (.ref a) cs H Q :=
  ⟨by rw [n.len, sizeLine_eq]; omega, a, _, _, b, rfl, ha, (T.err hd).1, n.pair, (T.anyOf hd ns fun c h => of_decide_eq_true (List.all_eq_true.mp hc c h)).trans (congrArg some e), q⟩
end G
namespace G
open PySem PySem.Spec PySem.Calls PyProof.Rows L2 He
/-! ### == of data of some depth -/
def ShK (k : Nat) (d : PyData) : Prop := d.canLay0 = true ∧ d.depth ≤ k
theorem ShK.up {k n : Nat} {d : PyData} (h : ShK k d) (e : k ≤ n) : ShK n d := ⟨h.1, Nat.le_trans h.2 e⟩
theorem ShK.all {k : Nat} : ∀ {ds : List PyData}, (∀ z ∈ ds, ShK k z) → PyData.canLayAll0 ds = true ∧ PyData.depthAll ds ≤ k
  | [], _ => ⟨by simp [PyData.canLayAll0], by simp [PyData.depthAll]⟩
  | z :: zs, h => by
    have h1 := ShK.all (ds := zs) fun y hy => h y (List.mem_cons_of_mem _ hy)
    have h2 := h z (List.mem_cons_self)
    refine ⟨by simp [PyData.canLayAll0, h2.1, h1.1], ?_⟩
    have a := h2.2
    have b := h1.2
    simp only [PyData.depthAll]
    omega
theorem ShK.lst {k : Nat} {ds : List PyData} (h : ∀ z ∈ ds, ShK k z) : ShK (k + 1) (.list ds) := by
  have a := ShK.all h
  refine ⟨by simp [PyData.canLay0, a.1], ?_⟩
  have b := a.2
  simp only [PyData.depth]
  omega
theorem ShK.tup {k : Nat} {ds : List PyData} (h : ∀ z ∈ ds, ShK k z) : ShK (k + 1) (.tuple ds) := by
  have a := ShK.all h
  refine ⟨by simp [PyData.canLay0, a.1], ?_⟩
  have b := a.2
  simp only [PyData.depth]
  omega
theorem ShK.ok {k : Nat} {d : PyData} (h : ShK k d) (e : k ≤ 64) : SeqAt.shaped d = true := by
  show (d.canLay0 && decide (d.depth ≤ 64)) = true
  rw [h.1, decide_eq_true (Nat.le_trans h.2 e)]
  rfl
/-- flat things as data -/
def toD : V → PyData
  | .bl b => .bool b
  | .int i => .int i
  | _ => .none
def flatI : V → Bool
  | .non => true
  | .bl _ => true
  | .int _ => true
  | _ => false
theorem toD_sh {v : V} : ShK 0 (toD v) := by cases v <;> exact ⟨by simp [toD, PyData.canLay0], by simp [toD, PyData.depth]⟩
theorem toD_dp {K : PySem.W.Frag} {H : Hp} {v : V} (h : flatI v = true) : Dp K H v (toD v) := by
  cases v <;> first | (cases h; done) | skip
  · exact .non
  · exact .bl _
  · exact .int _
theorem toDs_dp {K : PySem.W.Frag} {H : Hp} : ∀ {xs : List V}, (∀ x ∈ xs, flatI x = true) → DpAll K H xs (xs.map toD)
  | [], _ => .nil
  | _ :: _, h => .cons (toD_dp (h _ (List.mem_cons_self))) (toDs_dp fun y hy => h y (List.mem_cons_of_mem _ hy))
theorem toDs_sh {xs : List V} : ∀ z ∈ xs.map toD, ShK 0 z := fun z h => by
  obtain ⟨v, -, e⟩ := List.mem_map.mp h
  subst e
  exact toD_sh
/-- lists of flat things; of tuples of flat things -/
theorem dp_flat {K : PySem.W.Frag} {H : Hp} {a : Addr} {xs : List V} (h : H a = some (.lst xs)) (f : ∀ x ∈ xs, flatI x = true) : Dp K H (.ref a) (.list (xs.map toD)) := .lst (.of h) (toDs_dp f)
theorem sh_flat {xs : List V} : SeqAt.shaped (.list (xs.map toD)) = true := (ShK.lst toDs_sh).ok (by decide)
inductive TupAll (H : Hp) : List V → List (List V) → Prop where
  | nil : TupAll H [] []
  | cons {tp : Addr} {xs : List V} {rs : List V} {yss : List (List V)} (h : H tp = some (.tup xs)) (f : ∀ x ∈ xs, flatI x = true) (t : TupAll H rs yss) : TupAll H (.ref tp :: rs) (xs :: yss)
def tupD (yss : List (List V)) : PyData := .list (yss.map fun xs => .tuple (xs.map toD))
theorem TupAll.dp {K : PySem.W.Frag} {H : Hp} : ∀ {rs : List V} {yss : List (List V)}, TupAll H rs yss → DpAll K H rs (yss.map fun xs => .tuple (xs.map toD))
  | _, _, .nil => .nil
  | _, _, .cons h f t => .cons (.tup (.inl (.inl h)) (toDs_dp f)) t.dp
theorem TupAll.same {H H' : Hp} {rs : List V} {yss : List (List V)} (h : TupAll H rs yss) (s : Same H H') : TupAll H' rs yss := by
  induction h with
  | nil => exact .nil
  | cons h f t ih => exact .cons (s _ _ h) f ih
theorem TupAll.snoc {H : Hp} {rs : List V} {yss : List (List V)} {tp : Addr} {xs : List V} (h : TupAll H rs yss) (e : H tp = some (.tup xs)) (f : ∀ x ∈ xs, flatI x = true) : TupAll H (rs ++ [.ref tp]) (yss ++ [xs]) := by
  induction h with
  | nil => exact .cons e f .nil
  | cons h f' t ih => exact .cons h f' ih
theorem TupAll.put {H : Hp} {rs : List V} {yss : List (List V)} {D : Addr} {o o' : HO} (h : TupAll H rs yss) (e : H D = some o) (n : ∀ xs, o ≠ .tup xs) : TupAll (upd H D o') rs yss := by
  induction h with
  | nil => exact .nil
  | cons h f t ih => exact .cons (by rw [upd_ne (ne_of h e fun z => n _ z.symm)]; exact h) f ih
theorem TupAll.len {H : Hp} {rs : List V} {yss : List (List V)} (h : TupAll H rs yss) : rs.length = yss.length := by
  induction h with
  | nil => rfl
  | cons h f t ih => exact congrArg (· + 1) ih
theorem TupAll.mem {H : Hp} {rs : List V} {yss : List (List V)} (h : TupAll H rs yss) : ∀ r ∈ rs, ∃ tp xs, r = .ref tp ∧ H tp = some (.tup xs) ∧ xs ∈ yss := by
  induction h with
  | nil => exact fun r h => (List.not_mem_nil h).elim
  | cons h f t ih =>
    intro r hr
    rcases List.mem_cons.mp hr with rfl | hr
    · exact ⟨_, _, rfl, h, List.mem_cons_self⟩
    · obtain ⟨tp, xs, e, h', m⟩ := ih r hr
      exact ⟨tp, xs, e, h', List.mem_cons_of_mem _ m⟩
theorem dp_tups {K : PySem.W.Frag} {H : Hp} {a : Addr} {rs : List V} {yss : List (List V)} (h : H a = some (.lst rs)) (t : TupAll H rs yss) : Dp K H (.ref a) (tupD yss) := .lst (.of h) t.dp
theorem sh_tups {yss : List (List V)} : SeqAt.shaped (tupD yss) = true := by
  refine (ShK.lst (k := 1) fun z h => ?_).ok (by decide)
  obtain ⟨xs, -, e⟩ := List.mem_map.mp h
  subst e
  exact ShK.tup toDs_sh
theorem shaped_refl {d : PyData} (s : SeqAt.shaped d = true) : PyData.eqv d d = true := PySem.SeqAt.eqv_refl d (SeqAt.canLay_of_shaped s)
theorem r_eqSame {K : PySem.W.Frag} {H : Hp} {Q : VK} {a b : Addr} {d : PyData} (h1 : Dp K H (.ref a) d) (h2 : Dp K H (.ref b) d) (s : SeqAt.shaped d = true) (q : Q (.bl true) H) : gEq K (.ref a) (.ref b) H Q := ⟨d, d, h1, h2, s, s, by rw [shaped_refl s]; exact q⟩
theorem r_neSame {K : PySem.W.Frag} {H : Hp} {Q : VK} {a b : Addr} {d : PyData} (h1 : Dp K H (.ref a) d) (h2 : Dp K H (.ref b) d) (s : SeqAt.shaped d = true) (q : Q (.bl false) H) : gNe K (.ref a) (.ref b) H Q := ⟨d, d, h1, h2, s, s, by rw [shaped_refl s]; exact q⟩
theorem getD_range {ts : List V} {d : V} : (List.range ts.length).map (fun i => ts.getD i d) = ts := by
  refine List.ext_getElem (by rw [List.length_map, List.length_range]) fun i h1 h2 => ?_
  rw [List.getElem_map, List.getElem_range, List.getD_eq_getElem?_getD, List.getElem?_eq_getElem h2]
  rfl
theorem getD_at {α : Type} {ts : List α} {d : α} {i : Nat} (h : i < ts.length) : ts[i]? = some (ts.getD i d) := by
  rw [List.getElem?_eq_getElem h, List.getD_eq_getElem?_getD, List.getElem?_eq_getElem h]
  rfl
theorem r_ixT {K : PySem.W.Frag} {H : Hp} {Q : VK} {a : Addr} {xs : List V} {i : Nat} {v : V} (h : H a = some (.tup xs)) (e : xs[i]? = some v) (q : Q v H) : rIx K (.ref a) (.int (i : Int)) H Q := .inr (.inl ⟨_, _, _, _, rfl, rfl, .inl (.inl h), by
  have hl := (List.getElem?_eq_some_iff.mp e).1
  unfold atI ixN
  rw [if_pos (by omega), if_pos (by omega), Int.toNat_natCast]
  exact e, q⟩)
theorem op_catTK {X : Cx} {K : PySem.W.Frag} (hK : X.K = K) : OpR X (binaryOp .Add) (rCatT K) := hK ▸ op_catT
theorem r_cat {K : PySem.W.Frag} {H : Hp} {Q : VK} {a b : Addr} {xs ys : List V} (h1 : H a = some (.tup xs)) (h2 : H b = some (.tup ys)) (nx : xs ≠ []) (ny : ys ≠ []) (hl : xs.length + ys.length ≤ sizeLine) (q : ∀ p, H p = none → Q (.ref p) (upd H p (.tup (xs ++ ys)))) : rCatT K (.ref a) (.ref b) H Q :=
  ⟨a, b, xs, ys, rfl, rfl, .inl (.inl h1), .inl (.inl h2), nx, hl, fun e => absurd e ny, fun _ => q⟩
/-- addresses that are in use -/
def Live (H : Hp) (L : List Addr) : Prop := L.Nodup ∧ ∀ c ∈ L, ∃ o, H c = some o
theorem Live.nil {H : Hp} : Live H [] := ⟨List.nodup_nil, fun c h => (List.not_mem_nil h).elim⟩
theorem Live.same {H H' : Hp} {L : List Addr} (h : Live H L) (s : Same H H') : Live H' L := ⟨h.1, fun c m => let ⟨o, e⟩ := h.2 c m; ⟨o, s _ _ e⟩⟩
theorem Live.cons {H H' : Hp} {L : List Addr} {x : Addr} {o : HO} (h : Live H L) (s : Same H H') (e : H x = none) (e' : H' x = some o) : Live H' (x :: L) := by
  refine ⟨List.nodup_cons.mpr ⟨fun m => ?_, h.1⟩, fun c m => ?_⟩
  · obtain ⟨o, g⟩ := h.2 x m
    rw [e] at g
    cases g
  · rcases List.mem_cons.mp m with rfl | m
    · exact ⟨_, e'⟩
    · obtain ⟨o, g⟩ := h.2 c m
      exact ⟨o, s _ _ g⟩
/-! ### enumerate -/
theorem x_enum {σ : L2.St} {H : Hp} {ta : TA} {R : It → Hp → Prop} {K : PySem.W.Frag} : iEnum K ta σ H R = ta σ H fun vs H1 => ∃ a xs, vs = [.ref a] ∧ SqL K H1 a xs ∧ R (Ite K a) H1 := rfl
end G
namespace G
open PySem PySem.Spec PySem.Calls PyProof.Rows L2 He
/-! ### while -/
def WhB (W : Nat → L2.St → Hp → Prop) (k : Nat) (tb : TS) (D : Ends) (σ : L2.St) (H : Hp) : Prop :=
  ∃ N : L2.St → Hp → Prop, (∀ σ' H', N σ' H' → ∃ m', m' < k ∧ W m' σ' H') ∧ tb { D with nx := N, ct := N, bk := D.nx } σ H
theorem whW {c : TT} {tb : TS} {D : Ends} {σ : L2.St} {H : Hp} (W : Nat → L2.St → Hp → Prop) (h0 : ∃ k, W k σ H) (hs : ∀ k σ H, W k σ H → c σ H fun b H1 => if b = true then WhB W k tb D σ H1 else D.nx σ H1) : tWhile c tb D σ H :=
  ⟨W, h0, hs⟩
theorem whB {W : Nat → L2.St → Hp → Prop} {k : Nat} {tb : TS} {D : Ends} {σ : L2.St} {H : Hp} (h : tb { D with nx := fun σ' H' => ∃ m', m' < k ∧ W m' σ' H', ct := fun σ' H' => ∃ m', m' < k ∧ W m' σ' H', bk := D.nx } σ H) : WhB W k tb D σ H :=
  ⟨_, fun _ _ q => q, h⟩
end G
namespace Pr
open PySem PySem.Spec PyProof.Rows L2 G
local macro_rules | `(tactic| walk_at "x") => `(tactic| try simp only [↓x_var0, ↓x_varS, ↓x_c, ↓x_op, ↓x_un, ↓x_cb, ↓x_nil, ↓x_cons, ↓x_test, ↓x_b, ↓x_ex, ↓x_and, ↓x_or, ↓x_not, ↓x_andV, ↓x_orV, ↓x_notV, ↓x_tif, ↓x_chain, ↓x_menu, ↓x_menuI, ↓x_lst, ↓x_tup, ↓x_dnew, ↓x_callW, ↓x_callN, ↓x_seq, ↓x_next, ↓x_ret, ↓x_retN, ↓x_drop, ↓x_ifS, ↓x_asg, ↓x_name, ↓x_raise, ↓x_fld, ↓x_setF, ↓x_meth, ↓x_make, ↓x_sub, ↓r_min, ↓r_max, ↓x_yes, ↓x_for, ↓x_cut, ↓x_lc, ↓x_rng1, ↓x_rng2, ↓x_lst1, ↓x_itup, ↓x_rng3, ↓x_three, ↓x_lstg, ↓x_tupg, ↓x_adrS, ↓x_one, ↓x_two, ↓x_adr, ↓x_sl, ↓x_np, ↓x_pt, ↓x_int, ↓x_bm, ↓x_bm0, ↓x_consg, ↓x_nilg, ↓x_dget2, ↓x_dget1, ↓x_dget, ↓x_din, ↓x_dni, ↓x_dput, ↓x_dpop2, ↓r_isB, ↓r_notB, ↓x_enum, wipe, List.map_cons, List.map_nil, ↓x_isT, ↓r_isiII, ↓r_isiBB, ↓r_isiIB, ↓r_isiSS, ↓r_neNS, ↓r_neSN, ↓r_neNN, ↓r_eqNS, ↓r_eqSN, ↓r_eqNN, ↓r_eqIS, ↓r_neIS, ↓r_neSI, ↓r_neBS, ↓r_eqBB, ↓r_neBB, ↓x_start, ↓x_K, ↓x_start0, ↓r_i0, ↓r_i, ↓r_u, ↓r_addI, ↓r_addS, ↓r_mulI, ↓r_mulS, ↓r_eqI, ↓r_neI, ↓r_eqS, ↓r_neS, ↓r_absI, ↓r_intI, ↓r_intB, List.length_cons, List.length_nil, List.replicate, List.set_cons_zero, List.set_cons_succ, decide_eq_true_eq, Bool.not_eq_true', decide_eq_false_iff_not, if_true, if_false, Bool.false_eq_true, Bool.true_eq_false, ite_true, ite_false, Bool.not_true, Bool.not_false, c_div, n_ten, c_pow, not_true_eq_false, not_false_eq_true, decide_true, decide_false, true_and, and_true, and_self, true_or, or_true, Int.reduceLT, Int.reduceLE, Int.reduceMul, Int.reduceAdd, Int.reduceSub, Int.reducePow, Int.reduceNeg, Int.reduceDiv, Int.reduceMod, Nat.reducePow, Int.reduceToNat, Int.reduceEq, Int.reduceNe, Nat.reduceLT, Nat.reduceLeDiff, Nat.reduceAdd])

/-! ## the text by places -/
def top (i : Nat) : Stmt := PySem.Challenge.pw_cellkeep_k04_cells_laid.main.body.getD i (.Pass ⟨0, 0, 0, 0⟩)
abbrev s__wall : Stmt := top 0
abbrev s_is_whole : Stmt := top 16
abbrev s_number_word : Stmt := top 17
abbrev s_place_word : Stmt := top 18
abbrev s_kind : Stmt := top 19
abbrev s_worth : Stmt := top 20
abbrev s_need_slots : Stmt := top 24
abbrev s_lay : Stmt := top 25
abbrev s_head_of : Stmt := top 26
abbrev s_slots_of : Stmt := top 27
abbrev s_age_of : Stmt := top 28
abbrev s_words_of : Stmt := top 29
abbrev s_aged : Stmt := top 30
abbrev s_slot_place : Stmt := top 31
abbrev s_children : Stmt := top 32
abbrev s_send : Stmt := top 33
abbrev s_sent_to : Stmt := top 34
abbrev s_Memory___init__ : Stmt := inClass (top 37) 0
abbrev s_Memory_need : Stmt := inClass (top 37) 1
abbrev s_Memory_read : Stmt := inClass (top 37) 2
abbrev s_Memory_write : Stmt := inClass (top 37) 3
abbrev s_Memory_need_stretch : Stmt := inClass (top 37) 4
abbrev s_Memory_copy : Stmt := inClass (top 37) 5
abbrev s__law_cell_at : Stmt := top 39
abbrev s__law_whole : Stmt := top 40
abbrev s__law_names : Stmt := top 41
abbrev s__law_asked : Stmt := top 42
abbrev s__law_told : Stmt := top 43
abbrev s__law_is_head : Stmt := top 44
abbrev s__law_due : Stmt := top 45
abbrev s__law_done : Stmt := top 46
abbrev s__law_same : Stmt := top 47
abbrev s__law_looked : Stmt := top 48
abbrev s__law_stepped : Stmt := top 49
abbrev s_law : Stmt := top 50
def F_Memory (v0 v1 : V) : List (Str × V) := [("size", v0), ("words", v1)]
theorem pi_Memory_size {x  : V} : putF "size" x ([] : List (Str × V)) = ([("size", x)] : List (Str × V)) := rfl
theorem pf_Memory_size {x v0 v1 : V} : putF "size" x (F_Memory v0 v1) = F_Memory x v1 := rfl
theorem pi_Memory_words {x v0 : V} : putF "words" x ([("size", v0)] : List (Str × V)) = F_Memory v0 x := rfl
theorem pf_Memory_words {x v0 v1 : V} : putF "words" x (F_Memory v0 v1) = F_Memory v0 x := rfl
/-! ## the facts -/
def fa : List He.Fa := [.glo "KeepError", .glo "BadNumber", .glo "BadWord", .glo "BadCount", .glo "NoPlace", .glo "NoRoom", .glo "NoSlot", .glo "NoCell", .glo "NoImage", .glo "NoProgram", .glo "Memory", .glo "_wall", .glo "is_whole", .glo "number_word", .glo "place_word", .glo "kind", .glo "worth", .glo "need_slots", .glo "lay", .glo "head_of", .glo "slots_of", .glo "age_of", .glo "words_of", .glo "aged", .glo "slot_place", .glo "children", .glo "send", .glo "sent_to", .glo "_law_cell_at", .glo "_law_whole", .glo "_law_names", .glo "_law_asked", .glo "_law_told", .glo "_law_is_head", .glo "_law_due", .glo "_law_done", .glo "_law_same", .glo "_law_looked", .glo "_law_stepped", .glo "law", .int "MOST_NUMBER" (1000000000000), .int "MOST_PLACE" (9999), .int "NOTHING" (-1), .int "MOST_SLOTS" (8), .int "MOST_AGE" (2), .int "MOST_SIZE" (4000), .free "isinstance", .free "len", .free "abs", .free "range", .free "min", .free "all", .free "int", .free "bool", .free "list", .free "ValueError", .exc "KeepError", .exc "BadNumber", .exc "BadWord", .exc "BadCount", .exc "NoPlace", .exc "NoRoom", .exc "NoSlot", .exc "NoCell", .exc "NoImage", .exc "NoProgram", .cls "Memory", .mkr "Memory", .meth "Memory" "need", .meth "Memory" "read", .meth "Memory" "write", .meth "Memory" "need_stretch", .meth "Memory" "copy", .noat "Memory" "size", .noat "Memory" "words"]
def d__wall : He.DefD := ⟨("_wall", none), "_wall", "_wall", defArgs s__wall, defBody s__wall, defScope s__wall, [], []⟩
def d_is_whole : He.DefD := ⟨("is_whole", none), "is_whole", "is_whole", defArgs s_is_whole, defBody s_is_whole, defScope s_is_whole, [], []⟩
def d_number_word : He.DefD := ⟨("number_word", none), "number_word", "number_word", defArgs s_number_word, defBody s_number_word, defScope s_number_word, [], []⟩
def d_place_word : He.DefD := ⟨("place_word", none), "place_word", "place_word", defArgs s_place_word, defBody s_place_word, defScope s_place_word, [], []⟩
def d_kind : He.DefD := ⟨("kind", none), "kind", "kind", defArgs s_kind, defBody s_kind, defScope s_kind, [], []⟩
def d_worth : He.DefD := ⟨("worth", none), "worth", "worth", defArgs s_worth, defBody s_worth, defScope s_worth, [], []⟩
def d_need_slots : He.DefD := ⟨("need_slots", none), "need_slots", "need_slots", defArgs s_need_slots, defBody s_need_slots, defScope s_need_slots, [], []⟩
def d_lay : He.DefD := ⟨("lay", none), "lay", "lay", defArgs s_lay, defBody s_lay, defScope s_lay, [], []⟩
def d_head_of : He.DefD := ⟨("head_of", none), "head_of", "head_of", defArgs s_head_of, defBody s_head_of, defScope s_head_of, [], []⟩
def d_slots_of : He.DefD := ⟨("slots_of", none), "slots_of", "slots_of", defArgs s_slots_of, defBody s_slots_of, defScope s_slots_of, [], []⟩
def d_age_of : He.DefD := ⟨("age_of", none), "age_of", "age_of", defArgs s_age_of, defBody s_age_of, defScope s_age_of, [], []⟩
def d_words_of : He.DefD := ⟨("words_of", none), "words_of", "words_of", defArgs s_words_of, defBody s_words_of, defScope s_words_of, [], []⟩
def d_aged : He.DefD := ⟨("aged", none), "aged", "aged", defArgs s_aged, defBody s_aged, defScope s_aged, [], []⟩
def d_slot_place : He.DefD := ⟨("slot_place", none), "slot_place", "slot_place", defArgs s_slot_place, defBody s_slot_place, defScope s_slot_place, [], []⟩
def d_children : He.DefD := ⟨("children", none), "children", "children", defArgs s_children, defBody s_children, defScope s_children, [], []⟩
def d_send : He.DefD := ⟨("send", none), "send", "send", defArgs s_send, defBody s_send, defScope s_send, [], []⟩
def d_sent_to : He.DefD := ⟨("sent_to", none), "sent_to", "sent_to", defArgs s_sent_to, defBody s_sent_to, defScope s_sent_to, [], []⟩
def d_Memory___init__ : He.DefD := ⟨("Memory", some "__init__"), "__init__", "Memory.__init__", defArgs s_Memory___init__, defBody s_Memory___init__, defScope s_Memory___init__, [], []⟩
def d_Memory_need : He.DefD := ⟨("Memory", some "need"), "need", "Memory.need", defArgs s_Memory_need, defBody s_Memory_need, defScope s_Memory_need, [], []⟩
def d_Memory_read : He.DefD := ⟨("Memory", some "read"), "read", "Memory.read", defArgs s_Memory_read, defBody s_Memory_read, defScope s_Memory_read, [], []⟩
def d_Memory_write : He.DefD := ⟨("Memory", some "write"), "write", "Memory.write", defArgs s_Memory_write, defBody s_Memory_write, defScope s_Memory_write, [], []⟩
def d_Memory_need_stretch : He.DefD := ⟨("Memory", some "need_stretch"), "need_stretch", "Memory.need_stretch", defArgs s_Memory_need_stretch, defBody s_Memory_need_stretch, defScope s_Memory_need_stretch, [], []⟩
def d_Memory_copy : He.DefD := ⟨("Memory", some "copy"), "copy", "Memory.copy", defArgs s_Memory_copy, defBody s_Memory_copy, defScope s_Memory_copy, [], []⟩
def d__law_cell_at : He.DefD := ⟨("_law_cell_at", none), "_law_cell_at", "_law_cell_at", defArgs s__law_cell_at, defBody s__law_cell_at, defScope s__law_cell_at, [], []⟩
def d__law_whole : He.DefD := ⟨("_law_whole", none), "_law_whole", "_law_whole", defArgs s__law_whole, defBody s__law_whole, defScope s__law_whole, [], []⟩
def d__law_names : He.DefD := ⟨("_law_names", none), "_law_names", "_law_names", defArgs s__law_names, defBody s__law_names, defScope s__law_names, [], []⟩
def d__law_asked : He.DefD := ⟨("_law_asked", none), "_law_asked", "_law_asked", defArgs s__law_asked, defBody s__law_asked, defScope s__law_asked, [], []⟩
def d__law_told : He.DefD := ⟨("_law_told", none), "_law_told", "_law_told", defArgs s__law_told, defBody s__law_told, defScope s__law_told, [], []⟩
def d__law_is_head : He.DefD := ⟨("_law_is_head", none), "_law_is_head", "_law_is_head", defArgs s__law_is_head, defBody s__law_is_head, defScope s__law_is_head, [], []⟩
def d__law_due : He.DefD := ⟨("_law_due", none), "_law_due", "_law_due", defArgs s__law_due, defBody s__law_due, defScope s__law_due, [], []⟩
def d__law_done : He.DefD := ⟨("_law_done", none), "_law_done", "_law_done", defArgs s__law_done, defBody s__law_done, defScope s__law_done, [], []⟩
def d__law_same : He.DefD := ⟨("_law_same", none), "_law_same", "_law_same", defArgs s__law_same, defBody s__law_same, defScope s__law_same, [], []⟩
def d__law_looked : He.DefD := ⟨("_law_looked", none), "_law_looked", "_law_looked", defArgs s__law_looked, defBody s__law_looked, defScope s__law_looked, [], []⟩
def d__law_stepped : He.DefD := ⟨("_law_stepped", none), "_law_stepped", "_law_stepped", defArgs s__law_stepped, defBody s__law_stepped, defScope s__law_stepped, [], []⟩
def d_law : He.DefD := ⟨("law", none), "law", "law", defArgs s_law, defBody s_law, defScope s_law, [], []⟩
def fn : List He.DefD := [d__wall, d_is_whole, d_number_word, d_place_word, d_kind, d_worth, d_need_slots, d_lay, d_head_of, d_slots_of, d_age_of, d_words_of, d_aged, d_slot_place, d_children, d_send, d_sent_to, d_Memory___init__, d_Memory_need, d_Memory_read, d_Memory_write, d_Memory_need_stretch, d_Memory_copy, d__law_cell_at, d__law_whole, d__law_names, d__law_asked, d__law_told, d__law_is_head, d__law_due, d__law_done, d__law_same, d__law_looked, d__law_stepped, d_law]
def exL : List Str := ["KeepError", "BadNumber", "BadWord", "BadCount", "NoPlace", "NoRoom", "NoSlot", "NoCell", "NoImage", "NoProgram"]
abbrev Tx (K : PySem.W.Frag) (mg : Str → Option Value) : Prop := Told fa fn exL K mg
theorem sc__wall : FnScope ["k"] ["k"] (defScope s__wall) := ⟨rfl, rfl, rfl, by decide +kernel, rfl, by decide +kernel, by decide +kernel⟩
theorem sc_is_whole : FnScope ["thing"] ["thing"] (defScope s_is_whole) := ⟨rfl, rfl, rfl, by decide +kernel, rfl, by decide +kernel, by decide +kernel⟩
theorem sc_number_word : FnScope ["number"] ["number"] (defScope s_number_word) := ⟨rfl, rfl, rfl, by decide +kernel, rfl, by decide +kernel, by decide +kernel⟩
theorem sc_place_word : FnScope ["at"] ["at"] (defScope s_place_word) := ⟨rfl, rfl, rfl, by decide +kernel, rfl, by decide +kernel, by decide +kernel⟩
theorem sc_kind : FnScope ["word"] ["word"] (defScope s_kind) := ⟨rfl, rfl, rfl, by decide +kernel, rfl, by decide +kernel, by decide +kernel⟩
theorem sc_worth : FnScope ["word"] ["word"] (defScope s_worth) := ⟨rfl, rfl, rfl, by decide +kernel, rfl, by decide +kernel, by decide +kernel⟩
theorem sc_need_slots : FnScope ["slots"] ["slots"] (defScope s_need_slots) := ⟨rfl, rfl, rfl, by decide +kernel, rfl, by decide +kernel, by decide +kernel⟩
theorem sc_lay : FnScope ["memory", "at", "slots", "slot"] ["memory", "at", "slots"] (defScope s_lay) := ⟨rfl, rfl, rfl, by decide +kernel, rfl, by decide +kernel, by decide +kernel⟩
theorem sc_head_of : FnScope ["memory", "at", "word"] ["memory", "at"] (defScope s_head_of) := ⟨rfl, rfl, rfl, by decide +kernel, rfl, by decide +kernel, by decide +kernel⟩
theorem sc_slots_of : FnScope ["memory", "at"] ["memory", "at"] (defScope s_slots_of) := ⟨rfl, rfl, rfl, by decide +kernel, rfl, by decide +kernel, by decide +kernel⟩
theorem sc_age_of : FnScope ["memory", "at"] ["memory", "at"] (defScope s_age_of) := ⟨rfl, rfl, rfl, by decide +kernel, rfl, by decide +kernel, by decide +kernel⟩
theorem sc_words_of : FnScope ["memory", "at"] ["memory", "at"] (defScope s_words_of) := ⟨rfl, rfl, rfl, by decide +kernel, rfl, by decide +kernel, by decide +kernel⟩
theorem sc_aged : FnScope ["memory", "at", "age", "slots"] ["memory", "at", "age"] (defScope s_aged) := ⟨rfl, rfl, rfl, by decide +kernel, rfl, by decide +kernel, by decide +kernel⟩
theorem sc_slot_place : FnScope ["memory", "at", "slot", "slots"] ["memory", "at", "slot"] (defScope s_slot_place) := ⟨rfl, rfl, rfl, by decide +kernel, rfl, by decide +kernel, by decide +kernel⟩
theorem sc_children : FnScope ["memory", "at", "found", "slot", "word"] ["memory", "at"] (defScope s_children) := ⟨rfl, rfl, rfl, by decide +kernel, rfl, by decide +kernel, by decide +kernel⟩
theorem sc_send : FnScope ["memory", "at", "goal"] ["memory", "at", "goal"] (defScope s_send) := ⟨rfl, rfl, rfl, by decide +kernel, rfl, by decide +kernel, by decide +kernel⟩
theorem sc_sent_to : FnScope ["memory", "at", "word"] ["memory", "at"] (defScope s_sent_to) := ⟨rfl, rfl, rfl, by decide +kernel, rfl, by decide +kernel, by decide +kernel⟩
theorem sc_Memory___init__ : FnScope ["self", "size", "at"] ["self", "size"] (defScope s_Memory___init__) := ⟨rfl, rfl, rfl, by decide +kernel, rfl, by decide +kernel, by decide +kernel⟩
theorem sc_Memory_need : FnScope ["self", "at"] ["self", "at"] (defScope s_Memory_need) := ⟨rfl, rfl, rfl, by decide +kernel, rfl, by decide +kernel, by decide +kernel⟩
theorem sc_Memory_read : FnScope ["self", "at"] ["self", "at"] (defScope s_Memory_read) := ⟨rfl, rfl, rfl, by decide +kernel, rfl, by decide +kernel, by decide +kernel⟩
theorem sc_Memory_write : FnScope ["self", "at", "word"] ["self", "at", "word"] (defScope s_Memory_write) := ⟨rfl, rfl, rfl, by decide +kernel, rfl, by decide +kernel, by decide +kernel⟩
theorem sc_Memory_need_stretch : FnScope ["self", "at", "many"] ["self", "at", "many"] (defScope s_Memory_need_stretch) := ⟨rfl, rfl, rfl, by decide +kernel, rfl, by decide +kernel, by decide +kernel⟩
theorem sc_Memory_copy : FnScope ["self", "start", "goal", "many"] ["self", "start", "goal", "many"] (defScope s_Memory_copy) := ⟨rfl, rfl, rfl, by decide +kernel, rfl, by decide +kernel, by decide +kernel⟩
theorem sc__law_cell_at : FnScope ["_law_script", "_law_k"] ["_law_script", "_law_k"] (defScope s__law_cell_at) := ⟨rfl, rfl, rfl, by decide +kernel, rfl, by decide +kernel, by decide +kernel⟩
theorem sc__law_whole : FnScope ["_law_found"] ["_law_found"] (defScope s__law_whole) := ⟨rfl, rfl, rfl, by decide +kernel, rfl, by decide +kernel, by decide +kernel⟩
theorem sc__law_names : FnScope ["_law_e", "_law_found"] ["_law_e"] (defScope s__law_names) := ⟨rfl, rfl, rfl, by decide +kernel, rfl, by decide +kernel, by decide +kernel⟩
theorem sc__law_asked : FnScope ["_law_way", "_law_memory", "_law_at", "_law_more"] ["_law_way", "_law_memory", "_law_at", "_law_more"] (defScope s__law_asked) := ⟨rfl, rfl, rfl, by decide +kernel, rfl, by decide +kernel, by decide +kernel⟩
theorem sc__law_told : FnScope ["_law_way", "_law_memory", "_law_at", "_law_more", "_law_e"] ["_law_way", "_law_memory", "_law_at", "_law_more"] (defScope s__law_told) := ⟨rfl, rfl, rfl, by decide +kernel, rfl, by decide +kernel, by decide +kernel⟩
theorem sc__law_is_head : FnScope ["_law_word"] ["_law_word"] (defScope s__law_is_head) := ⟨rfl, rfl, rfl, by decide +kernel, rfl, by decide +kernel, by decide +kernel⟩
theorem sc__law_due : FnScope ["_law_way", "_law_row", "_law_at", "_law_more", "_law_slots", "_law_inner", "_law_word"] ["_law_way", "_law_row", "_law_at", "_law_more"] (defScope s__law_due) := ⟨rfl, rfl, rfl, by decide +kernel, rfl, by decide +kernel, by decide +kernel⟩
theorem sc__law_done : FnScope ["_law_way", "_law_row", "_law_at", "_law_more", "_law_k"] ["_law_way", "_law_row", "_law_at", "_law_more"] (defScope s__law_done) := ⟨rfl, rfl, rfl, by decide +kernel, rfl, by decide +kernel, by decide +kernel⟩
theorem sc__law_same : FnScope ["_law_found", "_law_due_here", "_law_one"] ["_law_found", "_law_due_here"] (defScope s__law_same) := ⟨rfl, rfl, rfl, by decide +kernel, rfl, by decide +kernel, by decide +kernel⟩
theorem sc__law_looked : FnScope ["_law_memory", "_law_row", "_law_at", "_law_way", "_law_first", "_law_kept", "_law_part", "_law_slot"] ["_law_memory", "_law_row", "_law_at"] (defScope s__law_looked) := ⟨rfl, rfl, rfl, by decide +kernel, rfl, by decide +kernel, by decide +kernel⟩
theorem sc__law_stepped : FnScope ["_law_memory", "_law_row", "_law_cell", "_law_more", "_law_last", "_law_size", "_law_odd", "_law_at", "_law_sort", "_law_thing", "_law_found", "_law_due_here", "_law_word", "_law_place", "_law_way"] ["_law_memory", "_law_row", "_law_cell", "_law_more", "_law_last"] (defScope s__law_stepped) := ⟨rfl, rfl, rfl, by decide +kernel, rfl, by decide +kernel, by decide +kernel⟩
theorem sc_law : FnScope ["_law_script", "_law_size", "_law_memory", "_law_row", "_law_last", "_law_k", "_law_at", "_law_good"] ["_law_script"] (defScope s_law) := ⟨rfl, rfl, rfl, by decide +kernel, rfl, by decide +kernel, by decide +kernel⟩

/-! ## words -/
/-- a plain thing that is no whole number -/
def Odd (H : Hp) (v : V) : Prop := ∃ t, tyOf v H = some t ∧ t ≠ "int"
theorem odd_not {H : Hp} {n : Int} : ¬ Odd H (.int n) := fun ⟨t, e, h⟩ => h (Option.some.inj e).symm
theorem odd_bl {H : Hp} {b : Bool} : Odd H (.bl b) := ⟨"bool", rfl, by decide⟩
theorem odd_non {H : Hp} : Odd H .non := ⟨"NoneType", rfl, by decide⟩
theorem odd_str {H : Hp} {z : Str} : Odd H (.str z) := ⟨"str", rfl, by decide⟩
theorem odd_lst {H : Hp} {a : Addr} {xs : List V} (h : H a = some (.lst xs)) : Odd H (.ref a) := ⟨"list", by show tyO (H a) = _; rw [h]; rfl, by decide⟩
theorem odd_tup {H : Hp} {a : Addr} {xs : List V} (h : H a = some (.tup xs)) : Odd H (.ref a) := ⟨"tuple", by show tyO (H a) = _; rw [h]; rfl, by decide⟩
theorem odd_dK {H : Hp} {a : Addr} {kvs : List (Key × V)} (h : H a = some (.dK kvs)) : Odd H (.ref a) := ⟨"dict", by show tyO (H a) = _; rw [h]; rfl, by decide⟩
inductive Wd where
  | num (n : Int) | place (p : Int) | nothing
  deriving DecidableEq
def Wd.kind : Wd → Str
  | .num _ => "number"
  | .place _ => "place"
  | .nothing => "nothing"
def Wd.worth : Wd → V
  | .num n => .int n
  | .place p => .int p
  | .nothing => .non
def wordOf (n : Int) : Option Wd := if n = -1 then some .nothing else if n % 2 = 0 ∧ (n.natAbs : Int) ≤ 2000000000000 then some (.num (n / 2)) else if n % 2 = 1 ∧ 0 < n ∧ n ≤ 19999 then some (.place (n / 2)) else none
abbrev Ex (K : PySem.W.Frag) (x : Str) : Value := .ref (He.ga K x)
def sp_is_whole : Sp
  | [.int _], H, Q, _ => Q (.bl true) H
  | [v], H, Q, _ => Odd H v ∧ Q (.bl false) H
  | _, _, _, _ => False
theorem len_is_whole {vs H Q E} (h : sp_is_whole vs H Q E) : vs.length = 1 := by unfold sp_is_whole at h; split at h <;> first | rfl | exact h.elim
theorem odd_whole {H : Hp} {v : V} {Q : VK} {E : XK} (h : Odd H v) : sp_is_whole [v] H Q E = Q (.bl false) H := by
  cases v with
  | int n => exact (odd_not h).elim
  | _ => exact propext ⟨fun z => z.2, fun z => ⟨h, z⟩⟩
theorem x_whole {H : Hp} {n : Int} {Q : VK} {E : XK} : sp_is_whole [.int n] H Q E = Q (.bl true) H := rfl
/-- the two questions of is_whole -/
theorem whole_odd {H : Hp} {v : V} {Q : VK} (h : Odd H v) (q : Q (.bl false) H) : gIsi [v, .ty "int"] H fun x H1 => ∃ c, x = .bl c ∧ if c = true then gIsi [v, .ty "bool"] H1 (fun x H2 => ∃ c, x = .bl c ∧ Q (.bl (!c)) H2) else Q (.bl false) H1 := by
  obtain ⟨t, e, ne⟩ := h
  refine ⟨by decide, t, e, _, rfl, ?_⟩
  have m := tyOf_in e
  split
  · rename_i c
    have tb : t = "bool" := by
      simp only [tys, List.mem_cons, List.not_mem_nil, or_false] at m
      rcases m with rfl | rfl | rfl | rfl | rfl | rfl | rfl
      · exact absurd c (by decide)
      · rfl
      · exact absurd rfl ne
      · exact absurd c (by decide)
      · exact absurd c (by decide)
      · exact absurd c (by decide)
      · exact absurd c (by decide)
    subst tb
    exact ⟨by decide, _, e, _, rfl, q⟩
  · exact q
theorem whole_int {H : Hp} {n : Int} {Q : VK} (q : Q (.bl true) H) : gIsi [.int n, .ty "int"] H fun x H1 => ∃ c, x = .bl c ∧ if c = true then gIsi [.int n, .ty "bool"] H1 (fun x H2 => ∃ c, x = .bl c ∧ Q (.bl (!c)) H2) else Q (.bl false) H1 :=
  ⟨by decide, _, rfl, _, rfl, by rw [if_pos (by decide)]; exact ⟨by decide, _, rfl, _, rfl, q⟩⟩
def sp_number_word (K : PySem.W.Frag) : Sp
  | [.int n], H, Q, E => if (n.natAbs : Int) ≤ 1000000000000 then Q (.int (2 * n)) H else E (Ex K "BadNumber") none H
  | [v], H, _, E => Odd H v ∧ E (Ex K "BadNumber") none H
  | _, _, _, _ => False
theorem odd_number_word {K : PySem.W.Frag} {H : Hp} {v : V} {Q : VK} {E : XK} (h : Odd H v) : sp_number_word K [v] H Q E = E (Ex K "BadNumber") none H := by
  cases v with
  | int n => exact (odd_not h).elim
  | _ => exact propext ⟨fun z => z.2, fun z => ⟨h, z⟩⟩
theorem one_number_word {K : PySem.W.Frag} {vs : List V} {H : Hp} {Q : VK} {E : XK} (h : sp_number_word K vs H Q E) : (∃ n, vs = [.int n]) ∨ ∃ v, vs = [v] ∧ Odd H v ∧ E (Ex K "BadNumber") none H := by
  unfold sp_number_word at h
  split at h
  · exact .inl ⟨_, rfl⟩
  · exact .inr ⟨_, rfl, h⟩
  · exact h.elim
theorem len_number_word {K vs H Q E} (h : sp_number_word K vs H Q E) : vs.length = 1 := by unfold sp_number_word at h; split at h <;> first | rfl | exact h.elim
def sp_place_word (K : PySem.W.Frag) : Sp
  | [.int n], H, Q, E => if 0 ≤ n ∧ n ≤ 9999 then Q (.int (2 * n + 1)) H else E (Ex K "NoPlace") none H
  | [v], H, _, E => Odd H v ∧ E (Ex K "NoPlace") none H
  | _, _, _, _ => False
theorem odd_place_word {K : PySem.W.Frag} {H : Hp} {v : V} {Q : VK} {E : XK} (h : Odd H v) : sp_place_word K [v] H Q E = E (Ex K "NoPlace") none H := by
  cases v with
  | int n => exact (odd_not h).elim
  | _ => exact propext ⟨fun z => z.2, fun z => ⟨h, z⟩⟩
theorem one_place_word {K : PySem.W.Frag} {vs : List V} {H : Hp} {Q : VK} {E : XK} (h : sp_place_word K vs H Q E) : (∃ n, vs = [.int n]) ∨ ∃ v, vs = [v] ∧ Odd H v ∧ E (Ex K "NoPlace") none H := by
  unfold sp_place_word at h
  split at h
  · exact .inl ⟨_, rfl⟩
  · exact .inr ⟨_, rfl, h⟩
  · exact h.elim
theorem len_place_word {K vs H Q E} (h : sp_place_word K vs H Q E) : vs.length = 1 := by unfold sp_place_word at h; split at h <;> first | rfl | exact h.elim
def sp_kind (K : PySem.W.Frag) : Sp
  | [.int n], H, Q, E => match wordOf n with
    | some w => Q (.str w.kind) H
    | none => E (Ex K "BadWord") none H
  | [v], H, _, E => Odd H v ∧ E (Ex K "BadWord") none H
  | _, _, _, _ => False
theorem odd_kind {K : PySem.W.Frag} {H : Hp} {v : V} {Q : VK} {E : XK} (h : Odd H v) : sp_kind K [v] H Q E = E (Ex K "BadWord") none H := by
  cases v with
  | int n => exact (odd_not h).elim
  | _ => exact propext ⟨fun z => z.2, fun z => ⟨h, z⟩⟩
theorem one_kind {K : PySem.W.Frag} {vs : List V} {H : Hp} {Q : VK} {E : XK} (h : sp_kind K vs H Q E) : (∃ n, vs = [.int n]) ∨ ∃ v, vs = [v] ∧ Odd H v ∧ E (Ex K "BadWord") none H := by
  unfold sp_kind at h
  split at h
  · exact .inl ⟨_, rfl⟩
  · exact .inr ⟨_, rfl, h⟩
  · exact h.elim
theorem len_kind {K vs H Q E} (h : sp_kind K vs H Q E) : vs.length = 1 := by unfold sp_kind at h; split at h <;> first | rfl | exact h.elim
def sp_worth (K : PySem.W.Frag) : Sp
  | [.int n], H, Q, E => match wordOf n with
    | some w => Q w.worth H
    | none => E (Ex K "BadWord") none H
  | [v], H, _, E => Odd H v ∧ E (Ex K "BadWord") none H
  | _, _, _, _ => False
theorem odd_worth {K : PySem.W.Frag} {H : Hp} {v : V} {Q : VK} {E : XK} (h : Odd H v) : sp_worth K [v] H Q E = E (Ex K "BadWord") none H := by
  cases v with
  | int n => exact (odd_not h).elim
  | _ => exact propext ⟨fun z => z.2, fun z => ⟨h, z⟩⟩
theorem one_worth {K : PySem.W.Frag} {vs : List V} {H : Hp} {Q : VK} {E : XK} (h : sp_worth K vs H Q E) : (∃ n, vs = [.int n]) ∨ ∃ v, vs = [v] ∧ Odd H v ∧ E (Ex K "BadWord") none H := by
  unfold sp_worth at h
  split at h
  · exact .inl ⟨_, rfl⟩
  · exact .inr ⟨_, rfl, h⟩
  · exact h.elim
theorem len_worth {K vs H Q E} (h : sp_worth K vs H Q E) : vs.length = 1 := by unfold sp_worth at h; split at h <;> first | rfl | exact h.elim
section
variable {K : PySem.W.Frag} {H : Hp} {n : Int} {Q : VK} {E : XK}
theorem x_number_word : sp_number_word K [.int n] H Q E = if (n.natAbs : Int) ≤ 1000000000000 then Q (.int (2 * n)) H else E (Ex K "BadNumber") none H := rfl
theorem x_place_word : sp_place_word K [.int n] H Q E = if 0 ≤ n ∧ n ≤ 9999 then Q (.int (2 * n + 1)) H else E (Ex K "NoPlace") none H := rfl
theorem x_kind : sp_kind K [.int n] H Q E = match wordOf n with
    | some w => Q (.str w.kind) H
    | none => E (Ex K "BadWord") none H := rfl
theorem x_worth : sp_worth K [.int n] H Q E = match wordOf n with
    | some w => Q w.worth H
    | none => E (Ex K "BadWord") none H := rfl
end
theorem kind_if {A B C F : Prop} {n : Int} {f : Wd → Prop} (h1 : f .nothing = A) (h2 : f (.num (n / 2)) = B) (h3 : f (.place (n / 2)) = C) :
    (match wordOf n with
    | some w => f w
    | none => F) = if n = -1 then A else if n % 2 = 0 ∧ (n.natAbs : Int) ≤ 2000000000000 then B else if n % 2 = 1 ∧ 0 < n ∧ n ≤ 19999 then C else F := by
  unfold wordOf
  by_cases c1 : n = -1
  · rw [if_pos c1, if_pos c1]; exact h1
  · rw [if_neg c1, if_neg c1]
    by_cases c2 : n % 2 = 0 ∧ (n.natAbs : Int) ≤ 2000000000000
    · rw [if_pos c2, if_pos c2]; exact h2
    · rw [if_neg c2, if_neg c2]
      by_cases c3 : n % 2 = 1 ∧ 0 < n ∧ n ≤ 19999
      · rw [if_pos c3, if_pos c3]; exact h3
      · rw [if_neg c3, if_neg c3]
theorem kind_is (w : Wd) : (w.kind = "nothing" ↔ w = .nothing) ∧ (w.kind = "place" ↔ ∃ p, w = .place p) ∧ (w.kind = "number" ↔ ∃ n, w = .num n) := by
  have d1 : ("number" : Str) ≠ "nothing" := by decide +kernel
  have d2 : ("number" : Str) ≠ "place" := by decide +kernel
  have d3 : ("place" : Str) ≠ "nothing" := by decide +kernel
  cases w with
  | num n => exact ⟨⟨fun z => (d1 z).elim, fun z => by cases z⟩, ⟨fun z => (d2 z).elim, fun ⟨_, z⟩ => by cases z⟩, ⟨fun _ => ⟨n, rfl⟩, fun _ => rfl⟩⟩
  | place n => exact ⟨⟨fun z => (d3 z).elim, fun z => by cases z⟩, ⟨fun _ => ⟨n, rfl⟩, fun _ => rfl⟩, ⟨fun z => (d2 z.symm).elim, fun ⟨_, z⟩ => by cases z⟩⟩
  | nothing => exact ⟨⟨fun _ => rfl, fun _ => rfl⟩, ⟨fun z => (d3 z.symm).elim, fun ⟨_, z⟩ => by cases z⟩, ⟨fun z => (d1 z.symm).elim, fun ⟨_, z⟩ => by cases z⟩⟩
theorem wordOf_div {n : Int} {w : Wd} (h : wordOf n = some w) : w.worth = if w = .nothing then .non else .int (n / 2) := by
  unfold wordOf at h
  repeat' split at h
  all_goals (cases h; try rfl)
local macro_rules | `(tactic| walk_at "w") => `(tactic| try simp only [↓x_var0, ↓x_varS, ↓x_c, ↓x_op, ↓x_un, ↓x_cb, ↓x_nil, ↓x_cons, ↓x_test, ↓x_b, ↓x_ex, ↓x_and, ↓x_or, ↓x_not, ↓x_andV, ↓x_orV, ↓x_notV, ↓x_tif, ↓x_chain, ↓x_menu, ↓x_menuI, ↓x_lst, ↓x_tup, ↓x_dnew, ↓x_callW, ↓x_callN, ↓x_seq, ↓x_next, ↓x_ret, ↓x_retN, ↓x_drop, ↓x_ifS, ↓x_asg, ↓x_name, ↓x_raise, ↓x_fld, ↓x_setF, ↓x_meth, ↓x_make, ↓x_sub, ↓r_min, ↓r_max, ↓x_yes, ↓x_for, ↓x_cut, ↓x_lc, ↓x_rng1, ↓x_rng2, ↓x_lst1, ↓x_itup, ↓x_rng3, ↓x_three, ↓x_lstg, ↓x_tupg, ↓x_adrS, ↓x_one, ↓x_two, ↓x_adr, ↓x_sl, ↓x_np, ↓x_pt, ↓x_int, ↓x_bm, ↓x_bm0, ↓x_consg, ↓x_nilg, ↓x_dget2, ↓x_dget1, ↓x_dget, ↓x_din, ↓x_dni, ↓x_dput, ↓x_dpop2, ↓r_isB, ↓r_notB, ↓x_enum, wipe, List.map_cons, List.map_nil, ↓x_isT, ↓r_isiII, ↓r_isiBB, ↓r_isiIB, ↓r_isiSS, ↓r_neNS, ↓r_neSN, ↓r_neNN, ↓r_eqNS, ↓r_eqSN, ↓r_eqNN, ↓r_eqIS, ↓r_neIS, ↓r_neSI, ↓r_neBS, ↓r_eqBB, ↓r_neBB, ↓x_start, ↓x_K, ↓x_start0, ↓r_i0, ↓r_i, ↓r_u, ↓r_addI, ↓r_addS, ↓r_mulI, ↓r_mulS, ↓r_eqI, ↓r_neI, ↓r_eqS, ↓r_neS, ↓r_absI, ↓r_intI, ↓r_intB, List.length_cons, List.length_nil, List.replicate, List.set_cons_zero, List.set_cons_succ, decide_eq_true_eq, Bool.not_eq_true', decide_eq_false_iff_not, if_true, if_false, Bool.false_eq_true, Bool.true_eq_false, ite_true, ite_false, Bool.not_true, Bool.not_false, c_div, n_ten, c_pow, not_true_eq_false, not_false_eq_true, decide_true, decide_false, true_and, and_true, and_self, true_or, or_true, Int.reduceLT, Int.reduceLE, Int.reduceMul, Int.reduceAdd, Int.reduceSub, Int.reducePow, Int.reduceNeg, Int.reduceDiv, Int.reduceMod, Nat.reducePow, Int.reduceToNat, Int.reduceEq, Int.reduceNe, Nat.reduceLT, Nat.reduceLeDiff, Nat.reduceAdd, ↓x_whole])
section
variable {P : Program} {w : World} {K : PySem.W.Frag} {mg : Str → Option Value} {base : Heap}
theorem f_is_whole (T : Tx K mg) : Fn P w K mg base 1 "is_whole" ["thing"] (sp_is_whole) := by
  refine T.mkFn 1 12 (d := d_is_whole) (N := ["thing"]) (k := 0) rfl rfl rfl rfl rfl sc_is_whole (fun _ _ _ _ _ _ us hl => match us, hl with | [_], _ => rfl) (fun vs H Q E h => ?len) (fun cdv A outer s H vs Q E hr h => ⟨_,
      (pss_one (ps_ret (pe_and (pe_callB call_gIsi (by rfl) (T.free 46) (by decide +kernel) (pa_cons (pv 0) (pa_cons (pe_ty (T := "int") (T.free 52) (by decide +kernel) (by rfl)) pa_nil))) (pe_one (pe_not (pe_callB call_gIsi (by rfl) (T.free 46) (by decide +kernel) (pa_cons (pv 0) (pa_cons (pe_ty (T := "bool") (T.free 53) (by decide +kernel) (by rfl)) pa_nil)))))))), ?rd⟩)
  case len => first | exact len_is_whole h | (repeat (first | (obtain ⟨rfl, _⟩ := h; rfl; done) | obtain ⟨_, h⟩ := h))
  case rd =>
    obtain ⟨v, rfl⟩ : ∃ v, vs = [v] := by unfold sp_is_whole at h; split at h <;> first | exact ⟨_, rfl⟩ | exact h.elim
    walk_at "x"
    cases v with
    | int n => exact whole_int h
    | _ => exact whole_odd h.1 h.2
theorem f_number_word (T : Tx K mg) : Fn P w K mg base 2 "number_word" ["number"] (sp_number_word K) := by
  have c_is_whole := f_is_whole (P := P) (w := w) (base := base) T
  refine T.mkFn 2 13 (d := d_number_word) (N := ["number"]) (k := 1) rfl rfl rfl rfl rfl sc_number_word (fun _ _ _ _ _ _ us hl => match us, hl with | [_], _ => rfl) (fun vs H Q E h => ?len) (fun cdv A outer s H vs Q E hr h => ⟨_,
      (pss_cons (ps_if (PW.pt (pw_or (pt_not (pt_val (pe_fn (takes_of rfl rfl rfl rfl) c_is_whole (hr.mono (by decide)) (by rfl) (pa_cons (pv 0) pa_nil)))) (pw_or1 (pt_cmpR op_gt (pe_callB call_gAbs (by rfl) (T.free 48) (by decide +kernel) (pa_cons (pv 0) pa_nil)) (pe_num (T.num 40) (by rfl)) (nomark _))))) (pss_one (ps_raiseK (K := K) rfl rfl (takes_of rfl rfl rfl rfl) (T.says.fact 57 rfl) (T.glo 1) (by rfl))) pss_nil)
        (pss_one (ps_ret (pe_op op_gMul pe_int (pv 0))))), ?rd⟩)
  case len => first | exact len_number_word h | (repeat (first | (obtain ⟨rfl, _⟩ := h; rfl; done) | obtain ⟨_, h⟩ := h))
  case rd =>
    rcases one_number_word h with ⟨n, rfl⟩ | ⟨v, rfl, o, h⟩
    · walk_at "w"
      rw [x_number_word] at h
      ((repeat' split) <;> (repeat' split at h) <;> first | exact h | (exfalso; omega))
    · walk_at "x"
      rw [odd_whole o]
      walk_at "x"
      exact h
theorem f_place_word (T : Tx K mg) : Fn P w K mg base 2 "place_word" ["at"] (sp_place_word K) := by
  have c_is_whole := f_is_whole (P := P) (w := w) (base := base) T
  refine T.mkFn 3 14 (d := d_place_word) (N := ["at"]) (k := 1) rfl rfl rfl rfl rfl sc_place_word (fun _ _ _ _ _ _ us hl => match us, hl with | [_], _ => rfl) (fun vs H Q E h => ?len) (fun cdv A outer s H vs Q E hr h => ⟨_,
      (pss_cons (ps_if (PW.pt (pw_or (pt_not (pt_val (pe_fn (takes_of rfl rfl rfl rfl) c_is_whole (hr.mono (by decide)) (by rfl) (pa_cons (pv 0) pa_nil)))) (pw_or1 (pt_not (pt_chain op_le op_le pe_int (pv 0) (pe_num (T.num 41) (by rfl))))))) (pss_one (ps_raiseK (K := K) rfl rfl (takes_of rfl rfl rfl rfl) (T.says.fact 60 rfl) (T.glo 4) (by rfl))) pss_nil)
        (pss_one (ps_ret (pe_op op_gAdd (pe_op op_gMul pe_int (pv 0)) pe_int)))), ?rd⟩)
  case len => first | exact len_place_word h | (repeat (first | (obtain ⟨rfl, _⟩ := h; rfl; done) | obtain ⟨_, h⟩ := h))
  case rd =>
    rcases one_place_word h with ⟨n, rfl⟩ | ⟨v, rfl, o, h⟩
    · walk_at "w"
      rw [x_place_word] at h
      ((repeat' split) <;> (repeat' split at h) <;> first | exact h | (exfalso; omega))
    · walk_at "x"
      rw [odd_whole o]
      walk_at "x"
      exact h
theorem f_kind (T : Tx K mg) : Fn P w K mg base 2 "kind" ["word"] (sp_kind K) := by
  have c_is_whole := f_is_whole (P := P) (w := w) (base := base) T
  refine T.mkFn 4 15 (d := d_kind) (N := ["word"]) (k := 1) rfl rfl rfl rfl rfl sc_kind (fun _ _ _ _ _ _ us hl => match us, hl with | [_], _ => rfl) (fun vs H Q E h => ?len) (fun cdv A outer s H vs Q E hr h => ⟨_,
      (pss_cons (ps_if (pt_not (pt_val (pe_fn (takes_of rfl rfl rfl rfl) c_is_whole (hr.mono (by decide)) (by rfl) (pa_cons (pv 0) pa_nil)))) (pss_one (ps_raiseK (K := K) rfl rfl (takes_of rfl rfl rfl rfl) (T.says.fact 58 rfl) (T.glo 2) (by rfl))) pss_nil)
        (pss_cons (ps_if (pt_cmpR (op_eqK (K := K) rfl hr.units) (pv 0) (pe_num (T.num 42) (by rfl)) (nomark _)) (pss_one (ps_ret pe_str)) pss_nil)
        (pss_cons (ps_if (PW.pt (pw_and (pt_cmpR (op_eqK (K := K) rfl hr.units) (pe_op op_mod (pv 0) pe_int) pe_int (nomark _)) (pw_and1 (pt_cmpR op_le (pe_callB call_gAbs (by rfl) (T.free 48) (by decide +kernel) (pa_cons (pv 0) pa_nil)) (pe_op op_gMul pe_int (pe_num (T.num 40) (by rfl))) (nomark _))))) (pss_one (ps_ret pe_str)) pss_nil)
        (pss_cons (ps_if (PW.pt (pw_and (pt_cmpR (op_eqK (K := K) rfl hr.units) (pe_op op_mod (pv 0) pe_int) pe_int (nomark _)) (pw_and1 (pt_chain op_lt op_le pe_int (pv 0) (pe_op op_gAdd (pe_op op_gMul pe_int (pe_num (T.num 41) (by rfl))) pe_int))))) (pss_one (ps_ret pe_str)) pss_nil)
        (pss_one (ps_raiseK (K := K) rfl rfl (takes_of rfl rfl rfl rfl) (T.says.fact 58 rfl) (T.glo 2) (by rfl))))))), ?rd⟩)
  case len => first | exact len_kind h | (repeat (first | (obtain ⟨rfl, _⟩ := h; rfl; done) | obtain ⟨_, h⟩ := h))
  case rd =>
    rcases one_kind h with ⟨n, rfl⟩ | ⟨v, rfl, o, h⟩
    · walk_at "w"
      rw [x_kind, kind_if rfl rfl rfl] at h
      ((repeat' split) <;> (repeat' split at h) <;> first | exact h | (exfalso; omega))
    · walk_at "x"
      rw [odd_whole o]
      walk_at "x"
      exact h
local macro_rules | `(tactic| walk_at "w2") => `(tactic| try simp only [↓x_var0, ↓x_varS, ↓x_c, ↓x_op, ↓x_un, ↓x_cb, ↓x_nil, ↓x_cons, ↓x_test, ↓x_b, ↓x_ex, ↓x_and, ↓x_or, ↓x_not, ↓x_andV, ↓x_orV, ↓x_notV, ↓x_tif, ↓x_chain, ↓x_menu, ↓x_menuI, ↓x_lst, ↓x_tup, ↓x_dnew, ↓x_callW, ↓x_callN, ↓x_seq, ↓x_next, ↓x_ret, ↓x_retN, ↓x_drop, ↓x_ifS, ↓x_asg, ↓x_name, ↓x_raise, ↓x_fld, ↓x_setF, ↓x_meth, ↓x_make, ↓x_sub, ↓r_min, ↓r_max, ↓x_yes, ↓x_for, ↓x_cut, ↓x_lc, ↓x_rng1, ↓x_rng2, ↓x_lst1, ↓x_itup, ↓x_rng3, ↓x_three, ↓x_lstg, ↓x_tupg, ↓x_adrS, ↓x_one, ↓x_two, ↓x_adr, ↓x_sl, ↓x_np, ↓x_pt, ↓x_int, ↓x_bm, ↓x_bm0, ↓x_consg, ↓x_nilg, ↓x_dget2, ↓x_dget1, ↓x_dget, ↓x_din, ↓x_dni, ↓x_dput, ↓x_dpop2, ↓r_isB, ↓r_notB, ↓x_enum, wipe, List.map_cons, List.map_nil, ↓x_isT, ↓r_isiII, ↓r_isiBB, ↓r_isiIB, ↓r_isiSS, ↓r_neNS, ↓r_neSN, ↓r_neNN, ↓r_eqNS, ↓r_eqSN, ↓r_eqNN, ↓r_eqIS, ↓r_neIS, ↓r_neSI, ↓r_neBS, ↓r_eqBB, ↓r_neBB, ↓x_start, ↓x_K, ↓x_start0, ↓r_i0, ↓r_i, ↓r_u, ↓r_addI, ↓r_addS, ↓r_mulI, ↓r_mulS, ↓r_eqI, ↓r_neI, ↓r_eqS, ↓r_neS, ↓r_absI, ↓r_intI, ↓r_intB, List.length_cons, List.length_nil, List.replicate, List.set_cons_zero, List.set_cons_succ, decide_eq_true_eq, Bool.not_eq_true', decide_eq_false_iff_not, if_true, if_false, Bool.false_eq_true, Bool.true_eq_false, ite_true, ite_false, Bool.not_true, Bool.not_false, c_div, n_ten, c_pow, not_true_eq_false, not_false_eq_true, decide_true, decide_false, true_and, and_true, and_self, true_or, or_true, Int.reduceLT, Int.reduceLE, Int.reduceMul, Int.reduceAdd, Int.reduceSub, Int.reducePow, Int.reduceNeg, Int.reduceDiv, Int.reduceMod, Nat.reducePow, Int.reduceToNat, Int.reduceEq, Int.reduceNe, Nat.reduceLT, Nat.reduceLeDiff, Nat.reduceAdd, ↓x_whole, ↓x_kind])
theorem f_worth (T : Tx K mg) : Fn P w K mg base 3 "worth" ["word"] (sp_worth K) := by
  have c_kind := f_kind (P := P) (w := w) (base := base) T
  refine T.mkFn 5 16 (d := d_worth) (N := ["word"]) (k := 2) rfl rfl rfl rfl rfl sc_worth (fun _ _ _ _ _ _ us hl => match us, hl with | [_], _ => rfl) (fun vs H Q E h => ?len) (fun cdv A outer s H vs Q E hr h => ⟨_,
      (pss_cons (ps_if (pt_cmpR (op_eqK (K := K) rfl hr.units) (pe_fn (takes_of rfl rfl rfl rfl) c_kind (hr.mono (by decide)) (by rfl) (pa_cons (pv 0) pa_nil)) pe_str (nomark _)) (pss_one (ps_ret pe_non)) pss_nil)
        (pss_one (ps_ret (pe_op op_fdiv (pv 0) pe_int)))), ?rd⟩)
  case len => first | exact len_worth h | (repeat (first | (obtain ⟨rfl, _⟩ := h; rfl; done) | obtain ⟨_, h⟩ := h))
  case rd =>
    rcases one_worth h with ⟨n, rfl⟩ | ⟨v, rfl, o, h⟩
    · walk_at "w2"
      rw [x_worth] at h
      cases e : wordOf n with
      | none => rw [e] at h; exact h
      | some w =>
        rw [e] at h
        replace h : Q w.worth H := h
        walk_at "w2"
        rw [wordOf_div e] at h
        simp only [(kind_is w).1]
        split
        · rename_i c
          rw [if_pos c] at h
          exact h
        · rename_i c
          rw [if_neg c] at h
          exact h
    · walk_at "x"
      rw [odd_kind o]
      exact h
end
local macro_rules | `(tactic| walk_at "w2") => `(tactic| try simp only [↓x_var0, ↓x_varS, ↓x_c, ↓x_op, ↓x_un, ↓x_cb, ↓x_nil, ↓x_cons, ↓x_test, ↓x_b, ↓x_ex, ↓x_and, ↓x_or, ↓x_not, ↓x_andV, ↓x_orV, ↓x_notV, ↓x_tif, ↓x_chain, ↓x_menu, ↓x_menuI, ↓x_lst, ↓x_tup, ↓x_dnew, ↓x_callW, ↓x_callN, ↓x_seq, ↓x_next, ↓x_ret, ↓x_retN, ↓x_drop, ↓x_ifS, ↓x_asg, ↓x_name, ↓x_raise, ↓x_fld, ↓x_setF, ↓x_meth, ↓x_make, ↓x_sub, ↓r_min, ↓r_max, ↓x_yes, ↓x_for, ↓x_cut, ↓x_lc, ↓x_rng1, ↓x_rng2, ↓x_lst1, ↓x_itup, ↓x_rng3, ↓x_three, ↓x_lstg, ↓x_tupg, ↓x_adrS, ↓x_one, ↓x_two, ↓x_adr, ↓x_sl, ↓x_np, ↓x_pt, ↓x_int, ↓x_bm, ↓x_bm0, ↓x_consg, ↓x_nilg, ↓x_dget2, ↓x_dget1, ↓x_dget, ↓x_din, ↓x_dni, ↓x_dput, ↓x_dpop2, ↓r_isB, ↓r_notB, ↓x_enum, wipe, List.map_cons, List.map_nil, ↓x_isT, ↓r_isiII, ↓r_isiBB, ↓r_isiIB, ↓r_isiSS, ↓r_neNS, ↓r_neSN, ↓r_neNN, ↓r_eqNS, ↓r_eqSN, ↓r_eqNN, ↓r_eqIS, ↓r_neIS, ↓r_neSI, ↓r_neBS, ↓r_eqBB, ↓r_neBB, ↓x_start, ↓x_K, ↓x_start0, ↓r_i0, ↓r_i, ↓r_u, ↓r_addI, ↓r_addS, ↓r_mulI, ↓r_mulS, ↓r_eqI, ↓r_neI, ↓r_eqS, ↓r_neS, ↓r_absI, ↓r_intI, ↓r_intB, List.length_cons, List.length_nil, List.replicate, List.set_cons_zero, List.set_cons_succ, decide_eq_true_eq, Bool.not_eq_true', decide_eq_false_iff_not, if_true, if_false, Bool.false_eq_true, Bool.true_eq_false, ite_true, ite_false, Bool.not_true, Bool.not_false, c_div, n_ten, c_pow, not_true_eq_false, not_false_eq_true, decide_true, decide_false, true_and, and_true, and_self, true_or, or_true, Int.reduceLT, Int.reduceLE, Int.reduceMul, Int.reduceAdd, Int.reduceSub, Int.reducePow, Int.reduceNeg, Int.reduceDiv, Int.reduceMod, Nat.reducePow, Int.reduceToNat, Int.reduceEq, Int.reduceNe, Nat.reduceLT, Nat.reduceLeDiff, Nat.reduceAdd, ↓x_whole, ↓x_kind])

def tabN : List (Str × Str) := [("BadCount", "count value"), ("NoPlace", "place value"), ("NoCell", "cell value"), ("NoSlot", "slot value")]

/-! ## the script's cells, lists that are read -/
def cell (ns : List Int) (j : Int) : Int := ns.getD j.toNat 0
theorem same_new {H : Hp} {p : Addr} {o : HO} (h : H p = none) : Same H (upd H p o) := fun b u e => by
  rw [upd_ne (ne_of_none e h)]
  exact e
theorem ite_and {P Q A B : Prop} [Decidable P] [Decidable Q] (h1 : P → Q → A) (h2 : ¬ (P ∧ Q) → B) : if P then (if Q then A else B) else B := by
  split
  · split
    · exact h1 ‹_› ‹_›
    · exact h2 fun z => absurd z.2 ‹_›
  · exact h2 fun z => absurd z.1 ‹_›
theorem ite_or {P Q A B : Prop} [Decidable P] [Decidable Q] (h1 : P ∨ Q → A) (h2 : ¬ P → ¬ Q → B) : if P then A else if Q then A else B := by
  split
  · exact h1 (.inl ‹_›)
  · split
    · exact h1 (.inr ‹_›)
    · exact h2 ‹_› ‹_›
/-- a new instance; its first deed -/
theorem same_mk {H : Hp} {x dx C : Addr} (nx : H x = none) (ndx : H dx = none) (ne : dx ≠ x) : Same H (upd (upd H dx (.own x)) x (.ins C dx [])) := (same_new ndx).trans (same_new (by rw [upd_ne ne.symm]; exact nx))
theorem same_init {H H' : Hp} {x dx C : Addr} (nx : H x = none) (ndx : H dx = none) (ne : dx ≠ x) (k : ∀ c o, c ≠ x → upd (upd H dx (.own x)) x (.ins C dx []) c = some o → H' c = some o) : Same H H' := fun c o e => k c o (ne_of_none e nx) (same_mk nx ndx ne c o e)
theorem cut_ints (ns : List Int) (lo hi : Option Int) : ∃ cs : List Int, cutV (ns.map V.int) lo hi = cs.map V.int := ⟨(ns.drop (HT.sIx ns.length 0 lo)).take (HT.sIx ns.length ns.length hi - HT.sIx ns.length 0 lo), by unfold cutV; rw [List.length_map, List.map_take, List.map_drop]⟩
def placeOf (n : Nat) : V → Option Nat
  | .int i => if 0 ≤ i ∧ i < n then some i.toNat else none
  | _ => none
theorem placeOf_int {n : Nat} {i : Int} : placeOf n (.int i) = if 0 ≤ i ∧ i < n then some i.toNat else none := rfl
theorem placeOf_odd {H : Hp} {n : Nat} {v : V} (h : Odd H v) : placeOf n v = none := by
  cases v with
  | int i => exact (odd_not h).elim
  | _ => rfl
theorem placeOf_some {n : Nat} {v : V} {i : Nat} (h : placeOf n v = some i) : v = .int (i : Int) ∧ i < n := by
  cases v with
  | int j =>
    rw [placeOf_int] at h
    split at h
    · rename_i c
      have e := Option.some.inj h
      exact ⟨by rw [← e]; congr 1; omega, by omega⟩
    · cases h
  | _ => cases h
def placeW : V → Option Int
  | .int n => if 0 ≤ n ∧ n ≤ 9999 then some n else none
  | _ => none
theorem placeW_int {n : Int} : placeW (.int n) = if 0 ≤ n ∧ n ≤ 9999 then some n else none := rfl
theorem placeW_odd {H : Hp} {v : V} (h : Odd H v) : placeW v = none := by
  cases v with
  | int i => exact (odd_not h).elim
  | _ => rfl
theorem placeW_some {v : V} {n : Int} (h : placeW v = some n) : v = .int n ∧ 0 ≤ n ∧ n ≤ 9999 := by
  cases v with
  | int j =>
    rw [placeW_int] at h
    split at h
    · rename_i c
      cases h
      exact ⟨rfl, c⟩
    · cases h
  | _ => cases h
theorem all_flat {ws : List Int} : (ws.map V.int).all flatV = true := by
  rw [List.all_map]
  exact List.all_eq_true.mpr fun _ _ => rfl
theorem in_ints {n : Int} {ws : List Int} : inV (.int n) (ws.map V.int) = decide (n ∈ ws) := by
  unfold inV
  rw [List.any_map]
  by_cases c : n ∈ ws
  · rw [decide_eq_true c]
    exact List.any_eq_true.mpr ⟨n, c, beq_self_eq_true n⟩
  · rw [decide_eq_false c]
    refine List.any_eq_false.mpr fun x hx e => c ?_
    have e2 : x = n := eq_of_beq e
    exact e2 ▸ hx
theorem none_of {H H' : Hp} {a : Addr} (s : Same H H') (h : H' a = none) : H a = none := by
  cases e : H a with
  | none => rfl
  | some o =>
    rw [s a o e] at h
    cases h
/-- a list that grows -/
theorem r_app {K : PySem.W.Frag} {H : Hp} {l : Addr} {xs : List V} {y : V} {Q : VK} (h : H l = some (.lst xs)) (hn : xs.length < sizeLine) (q : Q .non (upd H l (.lst (xs ++ [y])))) : tyV K "list" (.ref l) H ∧ rAppend (.ref l) [y] H Q := ⟨.inl ⟨rfl, _, .of h⟩, l, xs, y, rfl, rfl, h, hn, q⟩
theorem ty_lst {K : PySem.W.Frag} {H : Hp} {l : Addr} {xs : List V} (h : H l = some (.lst xs)) : tyV K "list" (.ref l) H := .inl ⟨rfl, _, .of h⟩
theorem same_tyOf {H H' : Hp} {v : V} {t : String} (s : Same H H') (h : tyOf v H = some t) : tyOf v H' = some t := by
  cases v with
  | ref a =>
    have h1 : tyO (H a) = some t := h
    cases e : H a with
    | none =>
      rw [e] at h1
      cases h1
    | some o =>
      rw [e] at h1
      show tyO (H' a) = some t
      rw [s a o e]
      exact h1
  | _ => exact h
theorem odd_same {H H' : Hp} {v : V} (s : Same H H') (h : Odd H v) : Odd H' v := h.elim fun t q => ⟨t, same_tyOf s q.1, q.2⟩
def Thing (H : Hp) (v : V) : Prop := (∃ n, v = .int n) ∨ Odd H v
theorem thing_same {H H' : Hp} {v : V} (s : Same H H') (h : Thing H v) : Thing H' v := h.imp id (odd_same s)
theorem thing_upd {H : Hp} {a : Addr} {o o' : HO} {v : V} (e : H a = some o) (q : tyO (some o) = tyO (some o')) (h : Thing H v) : Thing (upd H a o') v := h.imp id fun ⟨t, g, ne⟩ => ⟨t, by
  cases v with
  | ref b =>
    have h1 : tyO (H b) = some t := g
    show tyO (upd H a o' b) = some t
    by_cases c : b = a
    · subst c
      rw [upd_same, ← q, ← e]
      exact h1
    · rw [upd_ne c]
      exact h1
  | _ => exact g, ne⟩
theorem r_lenS {K : PySem.W.Frag} {H : Hp} {a : Addr} {xs : List V} {Q : VK} (h : SqL K H a xs) (q : Q (.int (xs.length : Int)) H) : L2.rLen K [.ref a] H Q := ⟨_, _, rfl, .inl ⟨_, h, rfl⟩, q⟩
theorem r_ixS {K : PySem.W.Frag} {H : Hp} {a : Addr} {xs : List V} {i : Int} {v : V} {Q : VK} (h : SqL K H a xs) (e : atI xs i = some v) (q : Q v H) : rIx K (.ref a) (.int i) H Q := .inl ⟨_, _, _, _, rfl, rfl, h, e, q⟩
theorem at_pos {α : Type} {xs : List α} {i : Int} {v : α} (h : 0 ≤ i) (e : xs[i.toNat]? = some v) : atI xs i = some v := by
  have hl := (List.getElem?_eq_some_iff.mp e).1
  unfold atI ixN
  rw [if_pos h, if_pos (by omega)]
  exact e
theorem menu_pick {xs : List V} {i : Int} {P : V → Prop} (Good : V → Prop) (h : ∃ v, atI xs i = some v ∧ Good v) (k : ∀ v, Good v → P v) : ∃ v, atI xs i = some v ∧ P v := h.elim fun v q => ⟨v, q.1, k v q.2⟩
theorem cut_int {ns : List Int} {lo hi : Option Int} {i : Nat} {x : V} (h : (cutV (ns.map V.int) lo hi)[i]? = some x) : ∃ c, x = .int c := by
  have m := List.mem_of_getElem? h
  unfold cutV at m
  have m2 := List.mem_of_mem_drop (List.mem_of_mem_take m)
  obtain ⟨c, -, e⟩ := List.mem_map.mp m2
  exact ⟨c, e.symm⟩
theorem sIx_pos {n d : Nat} {v : Int} (h : 0 ≤ v) : HT.sIx n d (some v) = min v.toNat n := by
  show (if v < 0 then (v + (n : Int)).toNat else min v.toNat n) = _
  rw [if_neg (by omega)]
theorem cut_len {xs : List V} {a b : Int} (h0 : 0 ≤ a) (h1 : a ≤ b) : (cutV xs (some a) (some b)).length ≤ (b - a).toNat := by
  unfold cutV
  rw [List.length_take, List.length_drop]
  rw [sIx_pos h0, sIx_pos (by omega)]
  omega
def sp_cell (K : PySem.W.Frag) : Sp := fun vs H Q _ => ∃ a j ns, vs = [.ref a, .int j] ∧ SqL K H a (ns.map V.int) ∧ 0 ≤ j ∧ Q (.int (cell ns j)) H
section
variable {P : Program} {w : World} {K : PySem.W.Frag} {mg : Str → Option Value} {base : Heap}
theorem f__law_cell_at (T : Tx K mg) : Fn P w K mg base 1 "_law_cell_at" ["_law_script", "_law_k"] (sp_cell K) := by
  refine T.mkFn 23 28 (d := d__law_cell_at) (N := ["_law_script", "_law_k"]) (k := 0) rfl rfl rfl rfl rfl sc__law_cell_at (fun _ _ _ _ _ _ us hl => match us, hl with | [_, _], _ => rfl) (fun vs H Q E h => ?len) (fun cdv A outer s H vs Q E hr h => ⟨_,
      (pss_cons (ps_if (pt_cmpR op_lt (pv 1) (pe_callB (call_lenK (K := K) rfl) (by rfl) (T.free 47) PySem.boot_len (pa_cons (pv 0) pa_nil)) (nomark _)) (pss_one (ps_ret (pe_ix (ix_seqK (K := K) rfl) (pv 0) (pv 1) (fun _ _ => rfl)))) pss_nil)
        (pss_one (ps_ret pe_int))), ?rd⟩)
  case len => obtain ⟨a, j, ns, rfl, _⟩ := h; rfl
  case rd =>
    obtain ⟨a, j, ns, rfl, hS, h0, q⟩ := h
    walk_at "x"
    refine r_lenS hS ?_
    walk_at "x"
    rw [List.length_map]
    unfold cell at q
    split
    · rename_i c
      have e : ns[j.toNat]? = some ns[j.toNat] := List.getElem?_eq_getElem (by omega)
      rw [List.getD_eq_getElem?_getD, e] at q
      exact r_ixS hS (at_pos h0 (by rw [List.getElem?_map, e]; rfl)) q
    · rw [List.getD_eq_getElem?_getD, List.getElem?_eq_none (by omega)] at q
      exact q
theorem f__law_whole (T : Tx K mg) : FnH P w K mg base 1 "_law_whole" ["_law_found"] (sp_is_whole) := by
  refine T.mkFnH 24 29 (d := d__law_whole) (N := ["_law_found"]) (k := 0) rfl rfl rfl rfl rfl sc__law_whole (fun _ _ _ _ _ _ us hl => match us, hl with | [_], _ => rfl) (fun vs H Q E h => ?len) (fun cdv A outer s H vs Q hr h => ⟨_,
      (pss_one (ps_ret (pe_and (pe_callB call_gIsi (by rfl) (T.free 46) (by decide +kernel) (pa_cons (pv 0) (pa_cons (pe_ty (T := "int") (T.free 52) (by decide +kernel) (by rfl)) pa_nil))) (pe_one (pe_not (pe_callB call_gIsi (by rfl) (T.free 46) (by decide +kernel) (pa_cons (pv 0) (pa_cons (pe_ty (T := "bool") (T.free 53) (by decide +kernel) (by rfl)) pa_nil)))))))), ?rd⟩)
  case len => exact len_is_whole h
  case rd =>
    obtain ⟨v, rfl⟩ : ∃ v, vs = [v] := by unfold sp_is_whole at h; split at h <;> first | exact ⟨_, rfl⟩ | exact h.elim
    walk_at "x"
    cases v with
    | int n => exact whole_int h
    | _ => exact whole_odd h.1 h.2
end


/-- what an error of class n is called: the pairs of tabN -/
def sp_names (K : PySem.W.Frag) : Sp := fun vs H Q _ => ∃ a n r, vs = [.ref a] ∧ H a = some (ExA (Ex K n) a) ∧ (n, r) ∈ tabN ∧ Q (.str r) H
section
variable {P : Program} {w : World} {K : PySem.W.Frag} {mg : Str → Option Value} {base : Heap}
theorem f__law_names (T : Tx K mg) : FnH P w K mg base 1 "_law_names" ["_law_e"] (sp_names K) := by
  refine T.mkFnH 25 30 (d := d__law_names) (N := ["_law_e", "_law_found"]) (k := 0) rfl rfl rfl rfl rfl sc__law_names (fun _ _ _ _ _ _ us hl => match us, hl with | [_], _ => rfl) (fun vs H Q E h => ?len) (fun cdv A outer s H vs Q hr h => ⟨_,
      (pss_cons (ps_set (i := 1) sc__law_names.nd rfl (Or.inl rfl) (pe_op op_gAdd (pe_op op_gMul pe_str (pe_callTy call_gInt (by rfl) (T.free 52) (by decide +kernel) (pa_cons (pe_callB (call_isEK (K := K) rfl) (by rfl) (T.free 46) (by decide +kernel) (pa_cons (pv 0) (pa_cons (pe_clsK (K := K) rfl (T.glo 3) (by rfl)) pa_nil))) pa_nil))) (pe_op op_gMul pe_str (pe_callTy call_gInt (by rfl) (T.free 52) (by decide +kernel) (pa_cons (pe_callB (call_isEK (K := K) rfl) (by rfl) (T.free 46) (by decide +kernel) (pa_cons (pv 0) (pa_cons (pe_clsK (K := K) rfl (T.glo 4) (by rfl)) pa_nil))) pa_nil)))))
        (pss_cons (ps_set (i := 1) sc__law_names.nd rfl (Or.inl rfl) (pe_op op_gAdd (pe_op op_gAdd (pv 1) (pe_op op_gMul pe_str (pe_callTy call_gInt (by rfl) (T.free 52) (by decide +kernel) (pa_cons (pe_callB (call_isEK (K := K) rfl) (by rfl) (T.free 46) (by decide +kernel) (pa_cons (pv 0) (pa_cons (pe_clsK (K := K) rfl (T.glo 7) (by rfl)) pa_nil))) pa_nil)))) (pe_op op_gMul pe_str (pe_callTy call_gInt (by rfl) (T.free 52) (by decide +kernel) (pa_cons (pe_callB (call_isEK (K := K) rfl) (by rfl) (T.free 46) (by decide +kernel) (pa_cons (pv 0) (pa_cons (pe_clsK (K := K) rfl (T.glo 6) (by rfl)) pa_nil))) pa_nil)))))
        (pss_cons (ps_set (i := 1) sc__law_names.nd rfl (Or.inl rfl) (pe_op op_gAdd (pv 1) (pe_op op_gMul pe_str (pe_callTy call_gInt (by rfl) (T.free 52) (by decide +kernel) (pa_cons (pe_isT (by rfl) (T.free 46) (pv 0) (pa_cons (pe_clsK (K := K) rfl (T.glo 2) (by rfl)) (pa_cons (pe_clsK (K := K) rfl (T.glo 8) (by rfl)) (pa_cons (pe_clsK (K := K) rfl (T.glo 9) (by rfl)) (pa_cons (pe_clsK (K := K) rfl (T.glo 5) (by rfl)) pa_nil))))) pa_nil)))))
        (pss_one (ps_ret (pe_op op_gAdd (pv 1) (pe_op op_gMul pe_str (pe_callTy call_gInt (by rfl) (T.free 52) (by decide +kernel) (pa_cons (pe_callB (call_isEK (K := K) rfl) (by rfl) (T.free 46) (by decide +kernel) (pa_cons (pv 0) (pa_cons (pe_ty (T := "ValueError") (T.free 55) (by decide +kernel) (by rfl)) pa_nil))) pa_nil))))))))), ?rd⟩)
  case len => obtain ⟨a, n, r, rfl, _⟩ := h; rfl
  case rd =>
    obtain ⟨a, n, r, rfl, ha, hn, q⟩ := h
    simp only [tabN, List.mem_cons, List.not_mem_nil, or_false, Prod.mk.injEq] at hn
    rcases hn with ⟨rfl, rfl⟩ | ⟨rfl, rfl⟩ | ⟨rfl, rfl⟩ | ⟨rfl, rfl⟩
    all_goals
      walk_at "x"
      repeat ((first | refine T.isY ha (by decide +kernel) (by decide +kernel) (by decide +kernel) ?_ | refine T.isN ha (by decide +kernel) (by decide +kernel) (by decide +kernel) ?_); walk_at "x"; (try refine ⟨by decide +kernel, ?_⟩))
      try ((apply T.isA (b := false) ha; (· repeat first | exact .nil | apply NamesK.cons); (· decide +kernel); (· decide +kernel); (· decide +kernel); (· decide +kernel)); walk_at "x"; refine ⟨by decide +kernel, ?_⟩)
      refine T.isV ha (by decide +kernel) ?_
      walk_at "x"
      refine ⟨by decide +kernel, ?_⟩
      exact q_str q (by decide +kernel)
end

/-! ## memories -/
structure MemO (K : PySem.W.Frag) (H : Hp) (m dx l : Addr) (ws : List Int) : Prop where
  ob : H m = some (.ins (He.ga K "Memory") dx (F_Memory (.int ws.length) (.ref l)))
  ls : H l = some (.lst (ws.map V.int))
  sz : ws.length ≤ 4000
theorem MemO.ne {K H m dx l ws} (h : MemO K H m dx l ws) : l ≠ m := ne_of h.ls h.ob (by intro z; cases z)
theorem MemO.same {K H H' m dx l ws} (h : MemO K H m dx l ws) (s : Same H H') : MemO K H' m dx l ws := ⟨s _ _ h.ob, s _ _ h.ls, h.sz⟩
theorem MemO.put {K H m dx l ws} (h : MemO K H m dx l ws) (vs : List Int) (e : vs.length = ws.length) : MemO K (upd H l (.lst (vs.map V.int))) m dx l vs :=
  ⟨by rw [upd_ne h.ne.symm, e]; exact h.ob, upd_same, by rw [e]; exact h.sz⟩
def wordV : V → Option Int
  | .int n => if (wordOf n).isSome then some n else none
  | _ => none
def sizeV : V → Option Nat
  | .int n => if 1 ≤ n ∧ n ≤ 4000 then some n.toNat else none
  | _ => none
theorem wordV_int {n : Int} : wordV (.int n) = if (wordOf n).isSome then some n else none := rfl
theorem sizeV_int {n : Int} : sizeV (.int n) = if 1 ≤ n ∧ n ≤ 4000 then some n.toNat else none := rfl
theorem wordV_odd {H : Hp} {v : V} (h : Odd H v) : wordV v = none := by
  cases v with
  | int i => exact (odd_not h).elim
  | _ => rfl
theorem sizeV_odd {H : Hp} {v : V} (h : Odd H v) : sizeV v = none := by
  cases v with
  | int i => exact (odd_not h).elim
  | _ => rfl
theorem wordV_some {v : V} {n : Int} (h : wordV v = some n) : v = .int n ∧ ∃ w, wordOf n = some w := by
  cases v with
  | int j =>
    rw [wordV_int] at h
    split at h
    · rename_i c
      cases h
      exact ⟨rfl, Option.isSome_iff_exists.mp c⟩
    · cases h
  | _ => cases h
theorem wordV_none {n : Int} (h : wordV (.int n) = none) : wordOf n = none := by
  rw [wordV_int] at h
  split at h
  · cases h
  · rename_i c
    cases e : wordOf n with
    | none => rfl
    | some w => rw [e] at c; exact absurd rfl c
def sp_Memory_need (K : PySem.W.Frag) : Sp := fun vs H Q E => ∃ m dx l ws v, vs = [.ref m, v] ∧ MemO K H m dx l ws ∧ Thing H v ∧ match placeOf ws.length v with
  | some _ => Q .non H
  | none => E (Ex K "NoPlace") none H
def sp_Memory_read (K : PySem.W.Frag) : Sp := fun vs H Q E => ∃ m dx l ws v, vs = [.ref m, v] ∧ MemO K H m dx l ws ∧ Thing H v ∧ match placeOf ws.length v with
  | some i => Q (.int (ws.getD i 0)) H
  | none => E (Ex K "NoPlace") none H
def sp_Memory_write (K : PySem.W.Frag) : Sp := fun vs H Q E => ∃ m dx l ws v z, vs = [.ref m, v, z] ∧ MemO K H m dx l ws ∧ Thing H v ∧ Thing H z ∧ match placeOf ws.length v with
  | some i => (match wordV z with
    | some n => Q .non (upd H l (.lst ((ws.set i n).map V.int)))
    | none => E (Ex K "BadWord") none H)
  | none => E (Ex K "NoPlace") none H
def sp_Memory___init__ (K : PySem.W.Frag) : Sp := fun vs H Q E => ∃ m dx v, vs = [.ref m, v] ∧ H m = some (.ins (He.ga K "Memory") dx []) ∧ Thing H v ∧ match sizeV v with
  | some n => ∀ l H', H l = none → MemO K H' m dx l (List.replicate n (-1)) → (∀ b o, b ≠ m → H b = some o → H' b = some o) → Q .non H'
  | none => E (Ex K "BadCount") none H
section
variable {P : Program} {w : World} {K : PySem.W.Frag} {mg : Str → Option Value} {base : Heap}
theorem f_Memory_need (T : Tx K mg) : Mt P w K mg base 2 "Memory" "need" ["self", "at"] (sp_Memory_need K) := by
  have c_is_whole := f_is_whole (P := P) (w := w) (base := base) T
  refine T.mkMt 18 68 66 (d := d_Memory_need) (N := ["self", "at"]) (k := 1) rfl rfl rfl rfl rfl rfl sc_Memory_need (fun _ _ _ _ _ _ us hl => match us, hl with | [_, _], _ => rfl) (fun vs H Q E h => ?len) (fun cdv A outer s H vs Q E hr h => ⟨_,
      (pss_one (ps_if (PW.pt (pw_or (pt_not (pt_val (pe_fn (takes_of rfl rfl rfl rfl) c_is_whole (hr.mono (by decide)) (by rfl) (pa_cons (pv 1) pa_nil)))) (pw_or1 (pt_not (pt_chain op_le op_lt pe_int (pv 1) (pe_fldC (T.cls 66) (T.noat 73) (pv 0))))))) (pss_one (ps_raiseK (K := K) rfl rfl (takes_of rfl rfl rfl rfl) (T.says.fact 60 rfl) (T.glo 4) (by rfl))) pss_nil)), ?rd⟩)
  case len => obtain ⟨m, dx, l, ws, v, rfl, _⟩ := h; rfl
  case rd =>
    obtain ⟨m, dx, l, ws, v, rfl, M, th, h⟩ := h
    walk_at "w2"
    rcases th with ⟨n, rfl⟩ | o
    · walk_at "w2"
      rw [placeOf_int] at h
      split
      · refine ⟨_, fldIs M.ob, ?_⟩
        walk_at "w2"
        split
        · rw [if_neg (by omega)] at h
          exact h
        · rw [if_pos (by omega)] at h
          exact h
      · rw [if_neg (by omega)] at h
        exact h
    · rw [odd_whole o]
      rw [placeOf_odd o] at h
      walk_at "w2"
      exact h
theorem f_Memory_read (T : Tx K mg) : Mt P w K mg base 3 "Memory" "read" ["self", "at"] (sp_Memory_read K) := by
  have c_Memory_need := f_Memory_need (P := P) (w := w) (base := base) T
  refine T.mkMt 19 69 66 (d := d_Memory_read) (N := ["self", "at"]) (k := 2) rfl rfl rfl rfl rfl rfl sc_Memory_read (fun _ _ _ _ _ _ us hl => match us, hl with | [_, _], _ => rfl) (fun vs H Q E h => ?len) (fun cdv A outer s H vs Q E hr h => ⟨_,
      (pss_cons (ps_expr (pe_mt (K := K) rfl (takes_of rfl rfl rfl rfl) (pv 0) c_Memory_need (hr.mono (by decide)) (pa_cons (pv 1) pa_nil)))
        (pss_one (ps_ret (pe_ix (ix_seqK (K := K) rfl) (pe_fldC (T.cls 66) (T.noat 74) (pv 0)) (pv 1) (fun _ _ => rfl))))), ?rd⟩)
  case len => obtain ⟨m, dx, l, ws, v, rfl, _⟩ := h; rfl
  case rd =>
    obtain ⟨m, dx, l, ws, v, rfl, M, th, h⟩ := h
    walk_at "w2"
    refine ⟨recv M.ob, m, dx, l, ws, v, rfl, M, th, ?_⟩
    cases e : placeOf ws.length v with
    | none =>
      rw [e] at h
      exact h
    | some i =>
      rw [e] at h
      obtain ⟨rfl, hi⟩ := placeOf_some e
      refine ⟨_, fldIs M.ob, ?_⟩
      refine r_ixS (.of M.ls) (at_pos (by omega) (v := .int (ws.getD i 0)) ?_) h
      rw [List.getElem?_map, Int.toNat_natCast, List.getElem?_eq_getElem hi, List.getD_eq_getElem?_getD, List.getElem?_eq_getElem hi]
      rfl
theorem f_Memory_write (T : Tx K mg) : Mt P w K mg base 3 "Memory" "write" ["self", "at", "word"] (sp_Memory_write K) := by
  have c_Memory_need := f_Memory_need (P := P) (w := w) (base := base) T
  have c_kind := f_kind (P := P) (w := w) (base := base) T
  refine T.mkMt 20 70 66 (d := d_Memory_write) (N := ["self", "at", "word"]) (k := 2) rfl rfl rfl rfl rfl rfl sc_Memory_write (fun _ _ _ _ _ _ us hl => match us, hl with | [_, _, _], _ => rfl) (fun vs H Q E h => ?len) (fun cdv A outer s H vs Q E hr h => ⟨_,
      (pss_cons (ps_expr (pe_mt (K := K) rfl (takes_of rfl rfl rfl rfl) (pv 0) c_Memory_need (hr.mono (by decide)) (pa_cons (pv 1) pa_nil)))
        (pss_cons (ps_expr (pe_fn (takes_of rfl rfl rfl rfl) c_kind (hr.mono (by decide)) (by rfl) (pa_cons (pv 2) pa_nil)))
        (pss_one (ps_asg (pv 2) (pg_sub (pe_fldC (T.cls 66) (T.noat 74) (pv 0)) (pv 1) set_list))))), ?rd⟩)
  case len => obtain ⟨m, dx, l, ws, v, z, rfl, _⟩ := h; rfl
  case rd =>
    obtain ⟨m, dx, l, ws, v, z, rfl, M, th, tz, h⟩ := h
    walk_at "w2"
    refine ⟨recv M.ob, m, dx, l, ws, v, rfl, M, th, ?_⟩
    cases e : placeOf ws.length v with
    | none =>
      rw [e] at h
      exact h
    | some i =>
      rw [e] at h
      obtain ⟨rfl, hi⟩ := placeOf_some e
      walk_at "w2"
      rcases tz with ⟨n, rfl⟩ | o
      · rw [x_kind]
        cases ew : wordOf n with
        | none =>
          have e2 : wordV (.int n) = none := by rw [wordV_int, ew]; rfl
          rw [e2] at h
          exact h
        | some w =>
          have e2 : wordV (.int n) = some n := by rw [wordV_int, ew]; rfl
          rw [e2] at h
          refine ⟨_, fldIs M.ob, ?_⟩
          refine r_setL M.ls (by omega) (by rw [List.length_map]; omega) ?_
          rw [Int.toNat_natCast, ← List.map_set]
          exact h
      · rw [odd_kind o]
        rw [wordV_odd o] at h
        exact h
theorem f_Memory___init__ (T : Tx K mg) : Mi P w K mg base 2 "Memory" ["self", "size"] (sp_Memory___init__ K) := by
  have c_is_whole := f_is_whole (P := P) (w := w) (base := base) T
  refine T.mkMi 17 67 10 (d := d_Memory___init__) (N := ["self", "size", "at"]) (k := 1) rfl rfl rfl rfl rfl rfl sc_Memory___init__ (fun _ _ _ _ _ _ us hl => match us, hl with | [_, _], _ => rfl) (fun vs H Q E h => ?len) (fun cdv A outer s H vs Q E hr h => ⟨_,
      (pss_cons (ps_if (PW.pt (pw_or (pt_not (pt_val (pe_fn (takes_of rfl rfl rfl rfl) c_is_whole (hr.mono (by decide)) (by rfl) (pa_cons (pv 1) pa_nil)))) (pw_or1 (pt_not (pt_chain op_le op_le pe_int (pv 1) (pe_num (T.num 45) (by rfl))))))) (pss_one (ps_raiseK (K := K) rfl rfl (takes_of rfl rfl rfl rfl) (T.says.fact 59 rfl) (T.glo 3) (by rfl))) pss_nil)
        (pss_cons (ps_fldC (T.cls 66) (T.noat 73) (pv 0) (pv 1))
        (pss_one (ps_fldC (T.cls 66) (T.noat 74) (pv 0) (pe_lc (own := [("at", 2)]) (g := gName 2) rfl sc_Memory___init__.nd (pi_range1 rfl (T.free 49) (pa_cons (pv 1) pa_nil)) (blkOk_by (own := [("at", 2)]) (N := ["self", "size", "at"]) (sc := defScope s_Memory___init__) (by decide +kernel)) (fun _ _ _ _ _ => (pg_name (i := 2) sc_Memory___init__.nd rfl (Or.inl rfl))) (fun _ _ _ _ _ => pts_nil) (fun _ _ _ _ _ => (pe_num (T.num 42) (by rfl)))))))), ?rd⟩)
  case len => obtain ⟨m, dx, v, rfl, _⟩ := h; rfl
  case rd =>
    obtain ⟨m, dx, v, rfl, M, th, h⟩ := h
    walk_at "w2"
    rcases th with ⟨n, rfl⟩ | o
    · walk_at "w2"
      rw [sizeV_int] at h
      split
      · split
        · rw [if_neg (by omega)] at h
          exact h
        · rw [if_pos (by omega)] at h
          refine ⟨m, dx, _, rfl, M, by decide, ?_⟩
          rw [pi_Memory_size]
          walk_at "w2"
          refine ⟨by omega, by omega, fun D hD => lc_mapR (fun _ => .int (-1)) (fun _ => rfl) (by rw [sizeLine_eq]; omega) (fun i hi acc Q q => ?_) ?_⟩
          · walk_at "w2"
            exact q
          · have nD : m ≠ D := ne_of_none upd_same hD
            have hD0 : H D = none := by rw [upd_ne nD.symm] at hD; exact hD
            refine ⟨m, dx, _, rfl, by rw [upd_ne nD, upd_same], by show 1 < 1000; decide, ?_⟩
            rw [pi_Memory_words]
            have er : (List.range n.toNat).map (fun _ => V.int (-1)) = (List.replicate n.toNat (-1 : Int)).map V.int := by rw [List.map_replicate, List.map_const', List.length_range]
            rw [er]
            refine h D _ hD0 ⟨?_, ?_, by rw [List.length_replicate]; omega⟩ fun b o hb e => ?_
            · rw [upd_same, List.length_replicate, Int.toNat_of_nonneg (by omega)]
            · rw [upd_ne nD.symm, upd_same]
            · rw [upd_ne hb, upd_ne (ne_of_none e hD0), upd_ne hb]
              exact e
      · rw [if_neg (by omega)] at h
        exact h
    · rw [odd_whole o]
      rw [sizeV_odd o] at h
      walk_at "w2"
      exact h
end
def stretchOf (n : Nat) (k : Int) : V → Option Nat
  | .int i => if 0 ≤ i ∧ i + k ≤ n then some i.toNat else none
  | _ => none
theorem stretchOf_int {n : Nat} {k i : Int} : stretchOf n k (.int i) = if 0 ≤ i ∧ i + k ≤ n then some i.toNat else none := rfl
theorem stretchOf_odd {H : Hp} {n : Nat} {k : Int} {v : V} (h : Odd H v) : stretchOf n k v = none := by
  cases v with
  | int i => exact (odd_not h).elim
  | _ => rfl
theorem stretchOf_some {n : Nat} {k : Int} {v : V} {i : Nat} (h : stretchOf n k v = some i) : v = .int (i : Int) ∧ (i : Int) + k ≤ n := by
  cases v with
  | int j =>
    rw [stretchOf_int] at h
    split at h
    · rename_i c
      have e := Option.some.inj h
      exact ⟨by rw [← e]; congr 1; omega, by omega⟩
    · cases h
  | _ => cases h
inductive Cp where
  | count | place | ok (i j k : Nat)
def cpOf (n : Nat) (a b : V) : V → Cp
  | .int k => if 0 ≤ k then (match stretchOf n k a with
    | some i => (match stretchOf n k b with
      | some j => .ok i j k.toNat
      | none => .place)
    | none => .place) else .count
  | _ => .count
theorem cpOf_odd {H : Hp} {n : Nat} {a b v : V} (h : Odd H v) : cpOf n a b v = .count := by
  cases v with
  | int i => exact (odd_not h).elim
  | _ => rfl
theorem cpOf_int {n : Nat} {a b : V} {k : Int} : cpOf n a b (.int k) = if 0 ≤ k then (match stretchOf n k a with
    | some i => (match stretchOf n k b with
      | some j => .ok i j k.toNat
      | none => .place)
    | none => .place) else .count := rfl
/-- t words of ws from i on, laid from j on -/
def cpT (ws : List Int) (i j t : Nat) : List Int := (List.range t).foldl (fun a u => a.set (j + u) (ws.getD (i + u) 0)) ws
theorem cpT_zero {ws : List Int} {i j : Nat} : cpT ws i j 0 = ws := rfl
theorem cpT_succ {ws : List Int} {i j t : Nat} : cpT ws i j (t + 1) = (cpT ws i j t).set (j + t) (ws.getD (i + t) 0) := by
  unfold cpT
  rw [List.range_succ, List.foldl_append]
  rfl
theorem cpT_len {ws : List Int} {i j t : Nat} : (cpT ws i j t).length = ws.length := by
  induction t with
  | zero => rfl
  | succ t ih => rw [cpT_succ, List.length_set, ih]
theorem cut_get {ws : List Int} {i k t : Nat} (h : i + k ≤ ws.length) (ht : t < k) : (cutV (ws.map V.int) (some (i : Int)) (some ((i : Int) + (k : Int))))[t]? = some (.int (ws.getD (i + t) 0)) := by
  unfold cutV
  rw [sIx_pos (by omega), sIx_pos (by omega), List.getElem?_take, if_pos (by rw [List.length_map]; omega), List.getElem?_drop, List.getElem?_map, List.getD_eq_getElem?_getD]
  have e3 : min (i : Int).toNat (ws.map V.int).length + t = i + t := by rw [List.length_map]; omega
  rw [e3, List.getElem?_eq_getElem (by omega)]
  rfl
def sp_Memory_need_stretch (K : PySem.W.Frag) : Sp := fun vs H Q E => ∃ m dx l ws v k, vs = [.ref m, v, .int k] ∧ MemO K H m dx l ws ∧ Thing H v ∧ match stretchOf ws.length k v with
  | some _ => Q .non H
  | none => E (Ex K "NoPlace") none H
def sp_Memory_copy (K : PySem.W.Frag) : Sp := fun vs H Q E => ∃ m dx l ws v1 v2 z, vs = [.ref m, v1, v2, z] ∧ MemO K H m dx l ws ∧ Thing H v1 ∧ Thing H v2 ∧ Thing H z ∧ match cpOf ws.length v1 v2 z with
  | .count => E (Ex K "BadCount") none H
  | .place => E (Ex K "NoPlace") none H
  | .ok i j k => ∀ H', MemO K H' m dx l (cpT ws i j k) → (∀ b o, b ≠ l → H b = some o → H' b = some o) → (∀ v, Thing H v → Thing H' v) → Q .non H'
section
variable {P : Program} {w : World} {K : PySem.W.Frag} {mg : Str → Option Value} {base : Heap}
end

local macro_rules | `(tactic| walk_at "w2") => `(tactic| try simp only [↓x_var0, ↓x_varS, ↓x_c, ↓x_op, ↓x_un, ↓x_cb, ↓x_nil, ↓x_cons, ↓x_test, ↓x_b, ↓x_ex, ↓x_and, ↓x_or, ↓x_not, ↓x_andV, ↓x_orV, ↓x_notV, ↓x_tif, ↓x_chain, ↓x_menu, ↓x_menuI, ↓x_lst, ↓x_tup, ↓x_dnew, ↓x_callW, ↓x_callN, ↓x_seq, ↓x_next, ↓x_ret, ↓x_retN, ↓x_drop, ↓x_ifS, ↓x_asg, ↓x_name, ↓x_raise, ↓x_fld, ↓x_setF, ↓x_meth, ↓x_make, ↓x_sub, ↓r_min, ↓r_max, ↓x_yes, ↓x_for, ↓x_cut, ↓x_lc, ↓x_rng1, ↓x_rng2, ↓x_lst1, ↓x_itup, ↓x_rng3, ↓x_three, ↓x_lstg, ↓x_tupg, ↓x_adrS, ↓x_one, ↓x_two, ↓x_adr, ↓x_sl, ↓x_np, ↓x_pt, ↓x_int, ↓x_bm, ↓x_bm0, ↓x_consg, ↓x_nilg, ↓x_dget2, ↓x_dget1, ↓x_dget, ↓x_din, ↓x_dni, ↓x_dput, ↓x_dpop2, ↓r_isB, ↓r_notB, ↓x_enum, wipe, List.map_cons, List.map_nil, ↓x_isT, ↓r_isiII, ↓r_isiBB, ↓r_isiIB, ↓r_isiSS, ↓r_neNS, ↓r_neSN, ↓r_neNN, ↓r_eqNS, ↓r_eqSN, ↓r_eqNN, ↓r_eqIS, ↓r_neIS, ↓r_neSI, ↓r_neBS, ↓r_eqBB, ↓r_neBB, ↓x_start, ↓x_K, ↓x_start0, ↓r_i0, ↓r_i, ↓r_u, ↓r_addI, ↓r_addS, ↓r_mulI, ↓r_mulS, ↓r_eqI, ↓r_neI, ↓r_eqS, ↓r_neS, ↓r_absI, ↓r_intI, ↓r_intB, List.length_cons, List.length_nil, List.replicate, List.set_cons_zero, List.set_cons_succ, decide_eq_true_eq, Bool.not_eq_true', decide_eq_false_iff_not, if_true, if_false, Bool.false_eq_true, Bool.true_eq_false, ite_true, ite_false, Bool.not_true, Bool.not_false, c_div, n_ten, c_pow, not_true_eq_false, not_false_eq_true, decide_true, decide_false, true_and, and_true, and_self, true_or, or_true, Int.reduceLT, Int.reduceLE, Int.reduceMul, Int.reduceAdd, Int.reduceSub, Int.reducePow, Int.reduceNeg, Int.reduceDiv, Int.reduceMod, Nat.reducePow, Int.reduceToNat, Int.reduceEq, Int.reduceNe, Nat.reduceLT, Nat.reduceLeDiff, Nat.reduceAdd, ↓x_whole, ↓x_kind])
/-! ## cells in a memory -/
def Vw (ws : List Int) : Prop := ∀ w ∈ ws, (wordOf w).isSome = true
theorem Vw.get {ws : List Int} (h : Vw ws) {i : Nat} (hi : i < ws.length) : ∃ w, wordOf (ws.getD i 0) = some w := by
  have m := List.mem_of_getElem? (getD_at (d := 0) hi)
  exact Option.isSome_iff_exists.mp (h _ m)
theorem Vw.set {ws : List Int} (h : Vw ws) {i : Nat} {n : Int} (hn : (wordOf n).isSome = true) : Vw (ws.set i n) := fun w m => by
  rcases List.mem_or_eq_of_mem_set m with m | rfl
  · exact h w m
  · exact hn
theorem Vw.rep {n : Nat} : Vw (List.replicate n (-1)) := fun w m => by
  rw [(List.mem_replicate.mp m).2]
  rfl
theorem k_nn : (Wd.nothing.kind = ("number" : Str)) = False := eq_false (show ¬ ("nothing" : Str) = "number" by decide +kernel)
theorem k_pn {p : Int} : ((Wd.place p).kind = ("number" : Str)) = False := eq_false (show ¬ ("place" : Str) = "number" by decide +kernel)
theorem k_Nn {n : Int} : ((Wd.num n).kind = ("number" : Str)) = True := eq_true (show ("number" : Str) = "number" from rfl)
theorem k_np : (Wd.nothing.kind = ("place" : Str)) = False := eq_false (show ¬ ("nothing" : Str) = "place" by decide +kernel)
theorem k_Np {n : Int} : ((Wd.num n).kind = ("place" : Str)) = False := eq_false (show ¬ ("number" : Str) = "place" by decide +kernel)
theorem k_pp {p : Int} : ((Wd.place p).kind = ("place" : Str)) = True := eq_true (show ("place" : Str) = "place" from rfl)
theorem word_num {n : Int} (h : (n.natAbs : Int) ≤ 1000000000000) : wordOf (2 * n) = some (.num n) := by
  unfold wordOf
  rw [if_neg (by omega), if_pos (by omega)]
  congr 2
  omega
theorem word_place {n : Int} (h0 : 0 ≤ n) (h1 : n ≤ 9999) : wordOf (2 * n + 1) = some (.place n) := by
  unfold wordOf
  rw [if_neg (by omega), if_neg (by omega), if_pos (by omega)]
  congr 2
  omega
/-- what head_of finds at a thing: no place, no cell, or the place and the head -/
inductive Hd where
  | noPlace | noCell | ok (i : Nat) (h : Nat)
def headAt (w : Int) : Option Nat := match wordOf w with
  | some (.num n) => if 0 ≤ n ∧ n ≤ 34 ∧ n % 4 ≤ 2 then some n.toNat else none
  | _ => none
def headW (ws : List Int) (v : V) : Hd := match placeOf ws.length v with
  | none => .noPlace
  | some i => match headAt (ws.getD i 0) with
    | none => .noCell
    | some h => .ok i h
theorem headAt_some {w : Int} {h : Nat} (e : headAt w = some h) : w = 2 * (h : Int) ∧ h ≤ 34 ∧ h % 4 ≤ 2 := by
  unfold headAt at e
  split at e
  · rename_i n en
    split at e
    · rename_i c
      have e := Option.some.inj e
      have hw : w = 2 * n := by
        unfold wordOf at en
        split at en
        · cases en
        · split at en
          · have := Wd.num.inj (Option.some.inj en)
            omega
          · split at en
            · cases en
            · cases en
      omega
    · cases e
  · cases e
theorem head_ok {ws : List Int} {v : V} {i h : Nat} (e : headW ws v = .ok i h) : v = .int (i : Int) ∧ i < ws.length ∧ headAt (ws.getD i 0) = some h := by
  unfold headW at e
  cases e1 : placeOf ws.length v with
  | none => rw [e1] at e; cases e
  | some j =>
    rw [e1] at e
    obtain ⟨a, b⟩ := placeOf_some e1
    have e : (match headAt (ws.getD j 0) with
      | none => Hd.noCell
      | some h => .ok j h) = .ok i h := e
    cases e2 : headAt (ws.getD j 0) with
    | none => rw [e2] at e; cases e
    | some h' =>
      rw [e2] at e
      cases e
      exact ⟨a, b, e2⟩
def slotsW : V → Option Nat
  | .int n => if 0 ≤ n ∧ n ≤ 8 then some n.toNat else none
  | _ => none
theorem slotsW_int {n : Int} : slotsW (.int n) = if 0 ≤ n ∧ n ≤ 8 then some n.toNat else none := rfl
theorem slotsW_odd {H : Hp} {v : V} (h : Odd H v) : slotsW v = none := by
  cases v with
  | int i => exact (odd_not h).elim
  | _ => rfl
theorem slotsW_some {v : V} {s : Nat} (h : slotsW v = some s) : v = .int (s : Int) ∧ s ≤ 8 := by
  cases v with
  | int j =>
    rw [slotsW_int] at h
    split at h
    · rename_i c
      have e := Option.some.inj h
      exact ⟨by rw [← e]; congr 1; omega, by omega⟩
    · cases h
  | _ => cases h
def ageW : V → Option Nat
  | .int n => if 0 ≤ n ∧ n ≤ 2 then some n.toNat else none
  | _ => none
theorem ageW_int {n : Int} : ageW (.int n) = if 0 ≤ n ∧ n ≤ 2 then some n.toNat else none := rfl
theorem ageW_odd {H : Hp} {v : V} (h : Odd H v) : ageW v = none := by
  cases v with
  | int i => exact (odd_not h).elim
  | _ => rfl
/-- t slots of a cell at i emptied -/
def layT (ws : List Int) (i s t : Nat) : List Int := (List.range t).foldl (fun a u => a.set (i + 1 + u) (-1)) (ws.set i (8 * (s : Int)))
theorem layT_succ {ws : List Int} {i s t : Nat} : layT ws i s (t + 1) = (layT ws i s t).set (i + 1 + t) (-1) := by
  unfold layT
  rw [List.range_succ, List.foldl_append]
  rfl
theorem layT_len {ws : List Int} {i s t : Nat} : (layT ws i s t).length = ws.length := by
  induction t with
  | zero => exact List.length_set ..
  | succ t ih => rw [layT_succ, List.length_set, ih]
theorem layT_vw {ws : List Int} (h : Vw ws) {i s t : Nat} (hs : s ≤ 8) : Vw (layT ws i s t) := by
  induction t with
  | zero =>
    have e : (8 * (s : Int)) = 2 * (4 * (s : Int)) := by omega
    exact h.set (by rw [e, word_num (by omega)]; rfl)
  | succ t ih =>
    rw [layT_succ]
    exact ih.set rfl
/-- the places in the slots of a cell at i -/
def kidsT (ws : List Int) (i t : Nat) : List Int := (List.range t).filterMap fun u => match wordOf (ws.getD (i + 1 + u) 0) with
  | some (.place p) => some p
  | _ => none
theorem kidsT_succ {ws : List Int} {i t : Nat} : kidsT ws i (t + 1) = kidsT ws i t ++ (match wordOf (ws.getD (i + 1 + t) 0) with
  | some (.place p) => [p]
  | _ => []) := by
  unfold kidsT
  rw [List.range_succ, List.filterMap_append]
  congr 1
  rw [List.filterMap_cons, List.filterMap_nil]
  cases e : wordOf (ws.getD (i + 1 + t) 0) with
  | none => rfl
  | some w => cases w <;> rfl
theorem kidsT_len {ws : List Int} {i t : Nat} : (kidsT ws i t).length ≤ t := by
  have := List.length_filterMap_le (fun u => match wordOf (ws.getD (i + 1 + u) 0) with
    | some (.place p) => some p
    | _ => none) (List.range t)
  rw [List.length_range] at this
  exact this
def sp_need_slots (K : PySem.W.Frag) : Sp := fun vs H Q E => ∃ v, vs = [v] ∧ Thing H v ∧ match slotsW v with
  | some _ => Q .non H
  | none => E (Ex K "BadCount") none H
def sp_head_of (K : PySem.W.Frag) : Sp := fun vs H Q E => ∃ m dx l ws v, vs = [.ref m, v] ∧ MemO K H m dx l ws ∧ Vw ws ∧ Thing H v ∧ match headW ws v with
  | .noPlace => E (Ex K "NoPlace") none H
  | .noCell => E (Ex K "NoCell") none H
  | .ok _ h => Q (.int h) H
def sp_slots_of (K : PySem.W.Frag) : Sp := fun vs H Q E => ∃ m dx l ws v, vs = [.ref m, v] ∧ MemO K H m dx l ws ∧ Vw ws ∧ Thing H v ∧ match headW ws v with
  | .noPlace => E (Ex K "NoPlace") none H
  | .noCell => E (Ex K "NoCell") none H
  | .ok _ h => Q (.int ((h / 4 : Nat) : Int)) H
def sp_age_of (K : PySem.W.Frag) : Sp := fun vs H Q E => ∃ m dx l ws v, vs = [.ref m, v] ∧ MemO K H m dx l ws ∧ Vw ws ∧ Thing H v ∧ match headW ws v with
  | .noPlace => E (Ex K "NoPlace") none H
  | .noCell => E (Ex K "NoCell") none H
  | .ok _ h => Q (.int ((h % 4 : Nat) : Int)) H
def sp_words_of (K : PySem.W.Frag) : Sp := fun vs H Q E => ∃ m dx l ws v, vs = [.ref m, v] ∧ MemO K H m dx l ws ∧ Vw ws ∧ Thing H v ∧ match headW ws v with
  | .noPlace => E (Ex K "NoPlace") none H
  | .noCell => E (Ex K "NoCell") none H
  | .ok _ h => Q (.int ((h / 4 + 1 : Nat) : Int)) H
def sp_aged (K : PySem.W.Frag) : Sp := fun vs H Q E => ∃ m dx l ws v z, vs = [.ref m, v, z] ∧ MemO K H m dx l ws ∧ Vw ws ∧ Thing H v ∧ Thing H z ∧ match headW ws v with
  | .noPlace => E (Ex K "NoPlace") none H
  | .noCell => E (Ex K "NoCell") none H
  | .ok i h => match ageW z with
    | none => E (Ex K "BadCount") none H
    | some a => Q .non (upd H l (.lst ((ws.set i (2 * ((4 * (h / 4) + a : Nat) : Int))).map V.int)))
def sp_slot_place (K : PySem.W.Frag) : Sp := fun vs H Q E => ∃ m dx l ws v z, vs = [.ref m, v, z] ∧ MemO K H m dx l ws ∧ Vw ws ∧ Thing H v ∧ Thing H z ∧ match headW ws v with
  | .noPlace => E (Ex K "NoPlace") none H
  | .noCell => E (Ex K "NoCell") none H
  | .ok i h => match placeOf (h / 4) z with
    | none => E (Ex K "NoSlot") none H
    | some s => Q (.int ((i + 1 + s : Nat) : Int)) H
def sp_children (K : PySem.W.Frag) : Sp := fun vs H Q E => ∃ m dx l ws v, vs = [.ref m, v] ∧ MemO K H m dx l ws ∧ Vw ws ∧ Thing H v ∧ match headW ws v with
  | .noPlace => ∀ H', Same H H' → E (Ex K "NoPlace") none H'
  | .noCell => ∀ H', Same H H' → E (Ex K "NoCell") none H'
  | .ok i h => i + h / 4 < ws.length ∧ ∀ p H', H p = none → Same H H' → H' p = some (.lst ((kidsT ws i (h / 4)).map V.int)) → Q (.ref p) H'
def sp_send (K : PySem.W.Frag) : Sp := fun vs H Q E => ∃ m dx l ws v z, vs = [.ref m, v, z] ∧ MemO K H m dx l ws ∧ Vw ws ∧ Thing H v ∧ Thing H z ∧ match headW ws v with
  | .noPlace => E (Ex K "NoPlace") none H
  | .noCell => E (Ex K "NoCell") none H
  | .ok i _ => match placeW z with
    | none => E (Ex K "NoPlace") none H
    | some g => Q .non (upd H l (.lst ((ws.set i (2 * g + 1)).map V.int)))
def sp_sent_to (K : PySem.W.Frag) : Sp := fun vs H Q E => ∃ m dx l ws v, vs = [.ref m, v] ∧ MemO K H m dx l ws ∧ Vw ws ∧ Thing H v ∧ match placeOf ws.length v with
  | none => E (Ex K "NoPlace") none H
  | some i => match wordOf (ws.getD i 0) with
    | some (.place p) => Q (.int p) H
    | _ => match headAt (ws.getD i 0) with
      | none => E (Ex K "NoCell") none H
      | some _ => Q .non H
def sp_lay (K : PySem.W.Frag) : Sp := fun vs H Q E => ∃ m dx l ws v z, vs = [.ref m, v, z] ∧ MemO K H m dx l ws ∧ Thing H v ∧ Thing H z ∧ match slotsW z with
  | none => E (Ex K "BadCount") none H
  | some s => match placeOf (ws.length - s) v with
    | none => E (Ex K "NoPlace") none H
    | some i => ∀ H', MemO K H' m dx l (layT ws i s s) → (∀ b o, b ≠ l → H b = some o → H' b = some o) → Q .non H'
section
variable {P : Program} {w : World} {K : PySem.W.Frag} {mg : Str → Option Value} {base : Heap}
theorem f_need_slots (T : Tx K mg) : Fn P w K mg base 2 "need_slots" ["slots"] (sp_need_slots K) := by
  have c_is_whole := f_is_whole (P := P) (w := w) (base := base) T
  refine T.mkFn 6 17 (d := d_need_slots) (N := ["slots"]) (k := 1) rfl rfl rfl rfl rfl sc_need_slots (fun _ _ _ _ _ _ us hl => match us, hl with | [_], _ => rfl) (fun vs H Q E h => ?len) (fun cdv A outer s H vs Q E hr h => ⟨_,
      (pss_one (ps_if (PW.pt (pw_or (pt_not (pt_val (pe_fn (takes_of rfl rfl rfl rfl) c_is_whole (hr.mono (by decide)) (by rfl) (pa_cons (pv 0) pa_nil)))) (pw_or1 (pt_not (pt_chain op_le op_le pe_int (pv 0) (pe_num (T.num 43) (by rfl))))))) (pss_one (ps_raiseK (K := K) rfl rfl (takes_of rfl rfl rfl rfl) (T.says.fact 59 rfl) (T.glo 3) (by rfl))) pss_nil)), ?rd⟩)
  case len => obtain ⟨v, rfl, _⟩ := h; rfl
  case rd =>
    obtain ⟨v, rfl, th, h⟩ := h
    walk_at "w2"
    rcases th with ⟨n, rfl⟩ | o
    · walk_at "w2"
      rw [slotsW_int] at h
      split
      · split
        · rw [if_neg (by omega)] at h
          exact h
        · rw [if_pos (by omega)] at h
          exact h
      · rw [if_neg (by omega)] at h
        exact h
    · rw [odd_whole o]
      rw [slotsW_odd o] at h
      walk_at "w2"
      exact h
theorem f_head_of (T : Tx K mg) : Fn P w K mg base 4 "head_of" ["memory", "at"] (sp_head_of K) := by
  have c_Memory_read := f_Memory_read (P := P) (w := w) (base := base) T
  have c_worth := f_worth (P := P) (w := w) (base := base) T
  have c_kind := f_kind (P := P) (w := w) (base := base) T
  refine T.mkFn 8 19 (d := d_head_of) (N := ["memory", "at", "word"]) (k := 3) rfl rfl rfl rfl rfl sc_head_of (fun _ _ _ _ _ _ us hl => match us, hl with | [_, _], _ => rfl) (fun vs H Q E h => ?len) (fun cdv A outer s H vs Q E hr h => ⟨_,
      (pss_cons (ps_set (i := 2) sc_head_of.nd rfl (Or.inl rfl) (pe_mt (K := K) rfl (takes_of rfl rfl rfl rfl) (pv 0) c_Memory_read (hr.mono (by decide)) (pa_cons (pv 1) pa_nil)))
        (pss_cons (ps_if (PW.pt (pw_or (pt_cmpR (op_neK (K := K) rfl hr.units) (pe_fn (takes_of rfl rfl rfl rfl) c_kind (hr.mono (by decide)) (by rfl) (pa_cons (pv 2) pa_nil)) pe_str (nomark _)) (pw_or (pt_not (pt_chain op_le op_le pe_int (pe_fn (takes_of rfl rfl rfl rfl) c_worth (hr.mono (by decide)) (by rfl) (pa_cons (pv 2) pa_nil)) (pe_op op_gAdd (pe_op op_gMul pe_int (pe_num (T.num 43) (by rfl))) (pe_num (T.num 44) (by rfl))))) (pw_or1 (pt_cmpR op_gt (pe_op op_mod (pe_fn (takes_of rfl rfl rfl rfl) c_worth (hr.mono (by decide)) (by rfl) (pa_cons (pv 2) pa_nil)) pe_int) (pe_num (T.num 44) (by rfl)) (nomark _)))))) (pss_one (ps_raiseK (K := K) rfl rfl (takes_of rfl rfl rfl rfl) (T.says.fact 63 rfl) (T.glo 7) (by rfl))) pss_nil)
        (pss_one (ps_ret (pe_fn (takes_of rfl rfl rfl rfl) c_worth (hr.mono (by decide)) (by rfl) (pa_cons (pv 2) pa_nil)))))), ?rd⟩)
  case len => obtain ⟨m, dx, l, ws, v, rfl, _⟩ := h; rfl
  case rd =>
    obtain ⟨m, dx, l, ws, v, rfl, M, vw, th, h⟩ := h
    walk_at "w2"
    refine ⟨recv M.ob, m, dx, l, ws, v, rfl, M, th, ?_⟩
    unfold headW at h
    cases e : placeOf ws.length v with
    | none =>
      rw [e] at h
      exact h
    | some i =>
      rw [e] at h
      obtain ⟨rfl, hi⟩ := placeOf_some e
      obtain ⟨w, ew⟩ := vw.get hi
      walk_at "w2"
      have h : (match headAt (ws.getD i 0) with
        | none => E (Ex K "NoCell") none H
        | some h => Q (.int (h : Int)) H) := by
        cases eh : headAt (ws.getD i 0) with
        | none =>
          have h : (match (match headAt (ws.getD i 0) with
            | none => Hd.noCell
            | some h => .ok i h) with
            | .noPlace => E (Ex K "NoPlace") none H
            | .noCell => E (Ex K "NoCell") none H
            | .ok _ h => Q (.int (h : Int)) H) := h
          rw [eh] at h
          exact h
        | some k =>
          have h : (match (match headAt (ws.getD i 0) with
            | none => Hd.noCell
            | some h => .ok i h) with
            | .noPlace => E (Ex K "NoPlace") none H
            | .noCell => E (Ex K "NoCell") none H
            | .ok _ h => Q (.int (h : Int)) H) := h
          rw [eh] at h
          exact h
      unfold headAt at h
      generalize ws.getD i 0 = z at ew h
      simp only [x_worth]
      rw [ew] at h ⊢
      dsimp only at h ⊢
      cases w with
      | nothing =>
        simp only [k_nn, k_pn, k_Nn, k_np, k_Np, k_pp, not_true_eq_false, not_false_eq_true, if_true, if_false, ite_true, ite_false, Wd.worth]
        exact h
      | place p =>
        simp only [k_nn, k_pn, k_Nn, k_np, k_Np, k_pp, not_true_eq_false, not_false_eq_true, if_true, if_false, ite_true, ite_false, Wd.worth]
        exact h
      | num n =>
        simp only [k_nn, k_pn, k_Nn, k_np, k_Np, k_pp, not_true_eq_false, not_false_eq_true, if_true, if_false, ite_true, ite_false, Wd.worth]
        have h : (match (if 0 ≤ n ∧ n ≤ 34 ∧ n % 4 ≤ 2 then some n.toNat else none) with
          | none => E (Ex K "NoCell") none H
          | some h => Q (.int (h : Int)) H) := h
        walk_at "w2"
        split
        · split
          · rw [if_neg (by omega)] at h
            exact h
          · split
            · rw [if_neg (by omega)] at h
              exact h
            · rw [if_pos (by omega)] at h
              have e : ((n.toNat : Nat) : Int) = n := Int.toNat_of_nonneg (by omega)
              have h : Q (.int ((n.toNat : Nat) : Int)) H := h
              rw [e] at h
              exact h
        · rw [if_neg (by omega)] at h
          exact h
theorem f_slots_of (T : Tx K mg) : Fn P w K mg base 5 "slots_of" ["memory", "at"] (sp_slots_of K) := by
  have c_head_of := f_head_of (P := P) (w := w) (base := base) T
  refine T.mkFn 9 20 (d := d_slots_of) (N := ["memory", "at"]) (k := 4) rfl rfl rfl rfl rfl sc_slots_of (fun _ _ _ _ _ _ us hl => match us, hl with | [_, _], _ => rfl) (fun vs H Q E h => ?len) (fun cdv A outer s H vs Q E hr h => ⟨_,
      (pss_one (ps_ret (pe_op op_fdiv (pe_fn (takes_of rfl rfl rfl rfl) c_head_of (hr.mono (by decide)) (by rfl) (pa_cons (pv 0) (pa_cons (pv 1) pa_nil))) pe_int))), ?rd⟩)
  case len => obtain ⟨m, dx, l, ws, v, rfl, _⟩ := h; rfl
  case rd =>
    obtain ⟨m, dx, l, ws, v, rfl, M, vw, th, h⟩ := h
    walk_at "w2"
    refine ⟨m, dx, l, ws, v, rfl, M, vw, th, ?_⟩
    cases e : headW ws v with
    | noPlace =>
      rw [e] at h
      exact h
    | noCell =>
      rw [e] at h
      exact h
    | ok i k =>
      rw [e] at h
      walk_at "w2"
      have e2 : (k : Int) / 4 = ((k / 4 : Nat) : Int) := by omega
      rw [e2]
      exact h
theorem f_age_of (T : Tx K mg) : Fn P w K mg base 5 "age_of" ["memory", "at"] (sp_age_of K) := by
  have c_head_of := f_head_of (P := P) (w := w) (base := base) T
  refine T.mkFn 10 21 (d := d_age_of) (N := ["memory", "at"]) (k := 4) rfl rfl rfl rfl rfl sc_age_of (fun _ _ _ _ _ _ us hl => match us, hl with | [_, _], _ => rfl) (fun vs H Q E h => ?len) (fun cdv A outer s H vs Q E hr h => ⟨_,
      (pss_one (ps_ret (pe_op op_mod (pe_fn (takes_of rfl rfl rfl rfl) c_head_of (hr.mono (by decide)) (by rfl) (pa_cons (pv 0) (pa_cons (pv 1) pa_nil))) pe_int))), ?rd⟩)
  case len => obtain ⟨m, dx, l, ws, v, rfl, _⟩ := h; rfl
  case rd =>
    obtain ⟨m, dx, l, ws, v, rfl, M, vw, th, h⟩ := h
    walk_at "w2"
    refine ⟨m, dx, l, ws, v, rfl, M, vw, th, ?_⟩
    cases e : headW ws v with
    | noPlace =>
      rw [e] at h
      exact h
    | noCell =>
      rw [e] at h
      exact h
    | ok i k =>
      rw [e] at h
      walk_at "w2"
      have e2 : (k : Int) % 4 = ((k % 4 : Nat) : Int) := by omega
      rw [e2]
      exact h
theorem f_words_of (T : Tx K mg) : Fn P w K mg base 6 "words_of" ["memory", "at"] (sp_words_of K) := by
  have c_slots_of := f_slots_of (P := P) (w := w) (base := base) T
  refine T.mkFn 11 22 (d := d_words_of) (N := ["memory", "at"]) (k := 5) rfl rfl rfl rfl rfl sc_words_of (fun _ _ _ _ _ _ us hl => match us, hl with | [_, _], _ => rfl) (fun vs H Q E h => ?len) (fun cdv A outer s H vs Q E hr h => ⟨_,
      (pss_one (ps_ret (pe_op op_gAdd (pe_fn (takes_of rfl rfl rfl rfl) c_slots_of (hr.mono (by decide)) (by rfl) (pa_cons (pv 0) (pa_cons (pv 1) pa_nil))) pe_int))), ?rd⟩)
  case len => obtain ⟨m, dx, l, ws, v, rfl, _⟩ := h; rfl
  case rd =>
    obtain ⟨m, dx, l, ws, v, rfl, M, vw, th, h⟩ := h
    walk_at "w2"
    refine ⟨m, dx, l, ws, v, rfl, M, vw, th, ?_⟩
    cases e : headW ws v with
    | noPlace =>
      rw [e] at h
      exact h
    | noCell =>
      rw [e] at h
      exact h
    | ok i k =>
      rw [e] at h
      walk_at "w2"
      have e2 : ((k / 4 : Nat) : Int) + 1 = ((k / 4 + 1 : Nat) : Int) := by omega
      rw [e2]
      exact h
theorem f_aged (T : Tx K mg) : Fn P w K mg base 6 "aged" ["memory", "at", "age"] (sp_aged K) := by
  have c_slots_of := f_slots_of (P := P) (w := w) (base := base) T
  have c_is_whole := f_is_whole (P := P) (w := w) (base := base) T
  have c_Memory_write := f_Memory_write (P := P) (w := w) (base := base) T
  have c_number_word := f_number_word (P := P) (w := w) (base := base) T
  refine T.mkFn 12 23 (d := d_aged) (N := ["memory", "at", "age", "slots"]) (k := 5) rfl rfl rfl rfl rfl sc_aged (fun _ _ _ _ _ _ us hl => match us, hl with | [_, _, _], _ => rfl) (fun vs H Q E h => ?len) (fun cdv A outer s H vs Q E hr h => ⟨_,
      (pss_cons (ps_set (i := 3) sc_aged.nd rfl (Or.inl rfl) (pe_fn (takes_of rfl rfl rfl rfl) c_slots_of (hr.mono (by decide)) (by rfl) (pa_cons (pv 0) (pa_cons (pv 1) pa_nil))))
        (pss_cons (ps_if (PW.pt (pw_or (pt_not (pt_val (pe_fn (takes_of rfl rfl rfl rfl) c_is_whole (hr.mono (by decide)) (by rfl) (pa_cons (pv 2) pa_nil)))) (pw_or1 (pt_not (pt_chain op_le op_le pe_int (pv 2) (pe_num (T.num 44) (by rfl))))))) (pss_one (ps_raiseK (K := K) rfl rfl (takes_of rfl rfl rfl rfl) (T.says.fact 59 rfl) (T.glo 3) (by rfl))) pss_nil)
        (pss_one (ps_expr (pe_mt (K := K) rfl (takes_of rfl rfl rfl rfl) (pv 0) c_Memory_write (hr.mono (by decide)) (pa_cons (pv 1) (pa_cons (pe_fn (takes_of rfl rfl rfl rfl) c_number_word (hr.mono (by decide)) (by rfl) (pa_cons (pe_op op_gAdd (pe_op op_gMul pe_int (pv 3)) (pv 2)) pa_nil)) pa_nil))))))), ?rd⟩)
  case len => obtain ⟨m, dx, l, ws, v, z, rfl, _⟩ := h; rfl
  case rd =>
    obtain ⟨m, dx, l, ws, v, z, rfl, M, vw, th, tz, h⟩ := h
    walk_at "w2"
    refine ⟨m, dx, l, ws, v, rfl, M, vw, th, ?_⟩
    cases e : headW ws v with
    | noPlace =>
      rw [e] at h
      exact h
    | noCell =>
      rw [e] at h
      exact h
    | ok i k =>
      rw [e] at h
      obtain ⟨rfl, hi, eh⟩ := head_ok e
      obtain ⟨-, h34, -⟩ := headAt_some eh
      walk_at "w2"
      rcases tz with ⟨n, rfl⟩ | o
      · walk_at "w2"
        rw [ageW_int] at h
        split
        · split
          · rw [if_neg (by omega)] at h
            exact h
          · rw [if_pos (by omega)] at h
            refine ⟨recv M.ob, ?_⟩
            rw [x_number_word, if_pos (by omega)]
            have e1 : (wordOf (2 * (4 * ((k / 4 : Nat) : Int) + n))).isSome = true := by rw [word_num (by omega)]; rfl
            refine ⟨m, dx, l, ws, _, _, rfl, M, .inl ⟨_, rfl⟩, .inl ⟨_, rfl⟩, ?_⟩
            rw [placeOf_int, if_pos ⟨by omega, by omega⟩, wordV_int, if_pos e1, Int.toNat_natCast]
            have e2 : 4 * ((k / 4 : Nat) : Int) + n = ((4 * (k / 4) + n.toNat : Nat) : Int) := by omega
            have e3 : 2 * (4 * ((k / 4 : Nat) : Int) + n) = 2 * ((4 * (k / 4) + n.toNat : Nat) : Int) := by omega
            show Q .non (upd H l (.lst ((ws.set i (2 * (4 * ((k / 4 : Nat) : Int) + n))).map V.int)))
            rw [e3]
            exact h
        · rw [if_neg (by omega)] at h
          exact h
      · rw [odd_whole o]
        rw [ageW_odd o] at h
        walk_at "w2"
        exact h
theorem f_slot_place (T : Tx K mg) : Fn P w K mg base 6 "slot_place" ["memory", "at", "slot"] (sp_slot_place K) := by
  have c_slots_of := f_slots_of (P := P) (w := w) (base := base) T
  have c_is_whole := f_is_whole (P := P) (w := w) (base := base) T
  refine T.mkFn 13 24 (d := d_slot_place) (N := ["memory", "at", "slot", "slots"]) (k := 5) rfl rfl rfl rfl rfl sc_slot_place (fun _ _ _ _ _ _ us hl => match us, hl with | [_, _, _], _ => rfl) (fun vs H Q E h => ?len) (fun cdv A outer s H vs Q E hr h => ⟨_,
      (pss_cons (ps_set (i := 3) sc_slot_place.nd rfl (Or.inl rfl) (pe_fn (takes_of rfl rfl rfl rfl) c_slots_of (hr.mono (by decide)) (by rfl) (pa_cons (pv 0) (pa_cons (pv 1) pa_nil))))
        (pss_cons (ps_if (PW.pt (pw_or (pt_not (pt_val (pe_fn (takes_of rfl rfl rfl rfl) c_is_whole (hr.mono (by decide)) (by rfl) (pa_cons (pv 2) pa_nil)))) (pw_or1 (pt_not (pt_chain op_le op_lt pe_int (pv 2) (pv 3)))))) (pss_one (ps_raiseK (K := K) rfl rfl (takes_of rfl rfl rfl rfl) (T.says.fact 62 rfl) (T.glo 6) (by rfl))) pss_nil)
        (pss_one (ps_ret (pe_op op_gAdd (pe_op op_gAdd (pv 1) pe_int) (pv 2)))))), ?rd⟩)
  case len => obtain ⟨m, dx, l, ws, v, z, rfl, _⟩ := h; rfl
  case rd =>
    obtain ⟨m, dx, l, ws, v, z, rfl, M, vw, th, tz, h⟩ := h
    walk_at "w2"
    refine ⟨m, dx, l, ws, v, rfl, M, vw, th, ?_⟩
    cases e : headW ws v with
    | noPlace =>
      rw [e] at h
      exact h
    | noCell =>
      rw [e] at h
      exact h
    | ok i k =>
      rw [e] at h
      obtain ⟨rfl, hi, eh⟩ := head_ok e
      walk_at "w2"
      have h : (match placeOf (k / 4) z with
        | none => E (Ex K "NoSlot") none H
        | some s => Q (.int ((i + 1 + s : Nat) : Int)) H) := h
      rcases tz with ⟨n, rfl⟩ | o
      · walk_at "w2"
        rw [placeOf_int] at h
        split
        · split
          · rw [if_neg (by omega)] at h
            exact h
          · rw [if_pos (by omega)] at h
            have e2 : (i : Int) + 1 + n = ((i + 1 + n.toNat : Nat) : Int) := by omega
            rw [e2]
            exact h
        · rw [if_neg (by omega)] at h
          exact h
      · rw [odd_whole o]
        rw [placeOf_odd o] at h
        walk_at "w2"
        exact h
theorem f_send (T : Tx K mg) : Fn P w K mg base 5 "send" ["memory", "at", "goal"] (sp_send K) := by
  have c_head_of := f_head_of (P := P) (w := w) (base := base) T
  have c_Memory_write := f_Memory_write (P := P) (w := w) (base := base) T
  have c_place_word := f_place_word (P := P) (w := w) (base := base) T
  refine T.mkFn 15 26 (d := d_send) (N := ["memory", "at", "goal"]) (k := 4) rfl rfl rfl rfl rfl sc_send (fun _ _ _ _ _ _ us hl => match us, hl with | [_, _, _], _ => rfl) (fun vs H Q E h => ?len) (fun cdv A outer s H vs Q E hr h => ⟨_,
      (pss_cons (ps_expr (pe_fn (takes_of rfl rfl rfl rfl) c_head_of (hr.mono (by decide)) (by rfl) (pa_cons (pv 0) (pa_cons (pv 1) pa_nil))))
        (pss_one (ps_expr (pe_mt (K := K) rfl (takes_of rfl rfl rfl rfl) (pv 0) c_Memory_write (hr.mono (by decide)) (pa_cons (pv 1) (pa_cons (pe_fn (takes_of rfl rfl rfl rfl) c_place_word (hr.mono (by decide)) (by rfl) (pa_cons (pv 2) pa_nil)) pa_nil)))))), ?rd⟩)
  case len => obtain ⟨m, dx, l, ws, v, z, rfl, _⟩ := h; rfl
  case rd =>
    obtain ⟨m, dx, l, ws, v, z, rfl, M, vw, th, tz, h⟩ := h
    walk_at "w2"
    refine ⟨m, dx, l, ws, v, rfl, M, vw, th, ?_⟩
    cases e : headW ws v with
    | noPlace =>
      rw [e] at h
      exact h
    | noCell =>
      rw [e] at h
      exact h
    | ok i k =>
      rw [e] at h
      obtain ⟨rfl, hi, eh⟩ := head_ok e
      walk_at "w2"
      refine ⟨recv M.ob, ?_⟩
      have h : (match placeW z with
        | none => E (Ex K "NoPlace") none H
        | some g => Q .non (upd H l (.lst ((ws.set i (2 * g + 1)).map V.int)))) := h
      rcases tz with ⟨n, rfl⟩ | o
      · rw [x_place_word]
        rw [placeW_int] at h
        split
        · rename_i c
          rw [if_pos c] at h
          have e1 : (wordOf (2 * n + 1)).isSome = true := by rw [word_place c.1 c.2]; rfl
          refine ⟨m, dx, l, ws, _, _, rfl, M, .inl ⟨_, rfl⟩, .inl ⟨_, rfl⟩, ?_⟩
          rw [placeOf_int, if_pos ⟨by omega, by omega⟩, wordV_int, if_pos e1, Int.toNat_natCast]
          exact h
        · rename_i c
          rw [if_neg c] at h
          exact h
      · rw [odd_place_word o]
        rw [placeW_odd o] at h
        exact h
theorem f_sent_to (T : Tx K mg) : Fn P w K mg base 5 "sent_to" ["memory", "at"] (sp_sent_to K) := by
  have c_Memory_read := f_Memory_read (P := P) (w := w) (base := base) T
  have c_kind := f_kind (P := P) (w := w) (base := base) T
  have c_worth := f_worth (P := P) (w := w) (base := base) T
  have c_head_of := f_head_of (P := P) (w := w) (base := base) T
  refine T.mkFn 16 27 (d := d_sent_to) (N := ["memory", "at", "word"]) (k := 4) rfl rfl rfl rfl rfl sc_sent_to (fun _ _ _ _ _ _ us hl => match us, hl with | [_, _], _ => rfl) (fun vs H Q E h => ?len) (fun cdv A outer s H vs Q E hr h => ⟨_,
      (pss_cons (ps_set (i := 2) sc_sent_to.nd rfl (Or.inl rfl) (pe_mt (K := K) rfl (takes_of rfl rfl rfl rfl) (pv 0) c_Memory_read (hr.mono (by decide)) (pa_cons (pv 1) pa_nil)))
        (pss_cons (ps_if (pt_cmpR (op_eqK (K := K) rfl hr.units) (pe_fn (takes_of rfl rfl rfl rfl) c_kind (hr.mono (by decide)) (by rfl) (pa_cons (pv 2) pa_nil)) pe_str (nomark _)) (pss_one (ps_ret (pe_fn (takes_of rfl rfl rfl rfl) c_worth (hr.mono (by decide)) (by rfl) (pa_cons (pv 2) pa_nil)))) pss_nil)
        (pss_cons (ps_expr (pe_fn (takes_of rfl rfl rfl rfl) c_head_of (hr.mono (by decide)) (by rfl) (pa_cons (pv 0) (pa_cons (pv 1) pa_nil))))
        (pss_one (ps_ret pe_non))))), ?rd⟩)
  case len => obtain ⟨m, dx, l, ws, v, rfl, _⟩ := h; rfl
  case rd =>
    obtain ⟨m, dx, l, ws, v, rfl, M, vw, th, h⟩ := h
    walk_at "w2"
    refine ⟨recv M.ob, m, dx, l, ws, v, rfl, M, th, ?_⟩
    cases e : placeOf ws.length v with
    | none =>
      rw [e] at h
      exact h
    | some i =>
      rw [e] at h
      obtain ⟨rfl, hi⟩ := placeOf_some e
      walk_at "w2"
      obtain ⟨w, ew⟩ := vw.get hi
      have eH : headW ws (.int (i : Int)) = (match headAt (ws.getD i 0) with
        | none => .noCell
        | some h => .ok i h) := by
        unfold headW
        rw [placeOf_int, if_pos ⟨by omega, by omega⟩, Int.toNat_natCast]
      have tail : (match headAt (ws.getD i 0) with
          | none => E (Ex K "NoCell") none H
          | some _ => Q .non H) → sp_head_of K [.ref m, .int (i : Int)] H (fun x H1 => Q .non H1) (fun c d H2 => E c d H2) := fun h => by
        refine ⟨m, dx, l, ws, _, rfl, M, vw, .inl ⟨_, rfl⟩, ?_⟩
        rw [eH]
        cases eh : headAt (ws.getD i 0) with
        | none =>
          rw [eh] at h
          exact h
        | some k =>
          rw [eh] at h
          exact h
      simp only [x_worth]
      have h : (match wordOf (ws.getD i 0) with
        | some (.place p) => Q (.int p) H
        | _ => match headAt (ws.getD i 0) with
          | none => E (Ex K "NoCell") none H
          | some _ => Q .non H) := h
      rw [ew] at h ⊢
      dsimp only at h ⊢
      cases w with
      | nothing =>
        simp only [k_nn, k_pn, k_Nn, k_np, k_Np, k_pp, not_true_eq_false, not_false_eq_true, if_true, if_false, ite_true, ite_false, Wd.worth]
        exact tail h
      | num n =>
        simp only [k_nn, k_pn, k_Nn, k_np, k_Np, k_pp, not_true_eq_false, not_false_eq_true, if_true, if_false, ite_true, ite_false, Wd.worth]
        exact tail h
      | place p =>
        simp only [k_nn, k_pn, k_Nn, k_np, k_Np, k_pp, not_true_eq_false, not_false_eq_true, if_true, if_false, ite_true, ite_false, Wd.worth]
        exact h
theorem f_children (T : Tx K mg) : Fn P w K mg base 6 "children" ["memory", "at"] (sp_children K) := by
  have c_slots_of := f_slots_of (P := P) (w := w) (base := base) T
  have c_Memory_read := f_Memory_read (P := P) (w := w) (base := base) T
  have c_kind := f_kind (P := P) (w := w) (base := base) T
  have c_worth := f_worth (P := P) (w := w) (base := base) T
  refine T.mkFn 14 25 (d := d_children) (N := ["memory", "at", "found", "slot", "word"]) (k := 5) rfl rfl rfl rfl rfl sc_children (fun _ _ _ _ _ _ us hl => match us, hl with | [_, _], _ => rfl) (fun vs H Q E h => ?len) (fun cdv A outer s H vs Q E hr h => ⟨_,
      (pss_cons (ps_set (i := 2) sc_children.nd rfl (Or.inl rfl) (pe_lst pa_nil))
        (pss_cons (ps_for (passes_of rfl) rfl (pi_range1 rfl (T.free 49) (pa_cons (pe_fn (takes_of rfl rfl rfl rfl) c_slots_of (hr.mono (by decide)) (by rfl) (pa_cons (pv 0) (pa_cons (pv 1) pa_nil))) pa_nil)) (pg_name (i := 3) sc_children.nd rfl (Or.inl rfl)) (pss_cons (ps_set (i := 4) sc_children.nd rfl (Or.inl rfl) (pe_mt (K := K) rfl (takes_of rfl rfl rfl rfl) (pv 0) c_Memory_read (hr.mono (by decide)) (pa_cons (pe_op op_gAdd (pe_op op_gAdd (pv 1) pe_int) (pv 3)) pa_nil)))
        (pss_one (ps_if (pt_cmpR (op_eqK (K := K) rfl hr.units) (pe_fn (takes_of rfl rfl rfl rfl) c_kind (hr.mono (by decide)) (by rfl) (pa_cons (pv 4) pa_nil)) pe_str (nomark _)) (pss_one (ps_expr (pe_bm PySem.F.plainAttrs_list PySem.F.slot_list_append PySem.F.type_list_append mt_append (pv 2) (pa_cons (pe_fn (takes_of rfl rfl rfl rfl) c_worth (hr.mono (by decide)) (by rfl) (pa_cons (pv 4) pa_nil)) pa_nil)))) pss_nil))))
        (pss_one (ps_ret (pv 2))))), ?rd⟩)
  case len => obtain ⟨m, dx, l, ws, v, rfl, _⟩ := h; rfl
  case rd =>
    obtain ⟨m, dx, l, ws, v, rfl, M, vw, th, h⟩ := h
    walk_at "w2"
    refine ⟨by rw [sizeLine_eq]; omega, fun p hp => ?_⟩
    have sp := same_new (o := .lst []) hp
    have M1 := M.same sp
    refine ⟨m, dx, l, ws, v, rfl, M1, vw, thing_same sp th, ?_⟩
    cases e : headW ws v with
    | noPlace =>
      rw [e] at h
      exact h _ sp
    | noCell =>
      rw [e] at h
      exact h _ sp
    | ok i k =>
      rw [e] at h
      obtain ⟨rfl, hi, eh⟩ := head_ok e
      obtain ⟨-, h34, -⟩ := headAt_some eh
      obtain ⟨fit, h⟩ := h
      dsimp only
      walk_at "w2"
      have ek : ((k / 4 : Nat) : Int).toNat = k / 4 := Int.toNat_natCast _
      rw [ek]
      refine ⟨by omega, by omega, forW_range (fun t σ H' => ∃ o3 o4, σ = [some (.ref m), some (.int (i : Int)), some (.ref p), o3, o4] ∧ Same H H' ∧ H' p = some (.lst ((kidsT ws i t).map V.int))) ⟨_, _, rfl, sp, upd_same⟩ ?_ ?_⟩
      · rintro t σ H' ht ⟨o3, o4, rfl, s, hp'⟩
        have M2 := M.same s
        have hj : i + 1 + t < ws.length := by omega
        obtain ⟨w, ew⟩ := vw.get hj
        walk_at "w2"
        have ej : (i : Int) + 1 + ((0 : Int) + (t : Int)) = ((i + 1 + t : Nat) : Int) := by omega
        rw [ej]
        refine ⟨recv M2.ob, m, dx, l, ws, _, rfl, M2, .inl ⟨_, rfl⟩, ?_⟩
        rw [placeOf_int, if_pos ⟨by omega, by omega⟩, Int.toNat_natCast]
        dsimp only
        walk_at "w2"
        simp only [x_worth]
        have kl := kidsT_len (ws := ws) (i := i) (t := t)
        rw [kidsT_succ, ew]
        dsimp only
        cases w with
        | nothing =>
          simp only [k_nn, k_pn, k_Nn, k_np, k_Np, k_pp, not_true_eq_false, not_false_eq_true, if_true, if_false, ite_true, ite_false, Wd.worth]
          rw [List.append_nil]
          exact ⟨_, _, rfl, s, hp'⟩
        | num n =>
          simp only [k_nn, k_pn, k_Nn, k_np, k_Np, k_pp, not_true_eq_false, not_false_eq_true, if_true, if_false, ite_true, ite_false, Wd.worth]
          rw [List.append_nil]
          exact ⟨_, _, rfl, s, hp'⟩
        | place g =>
          simp only [k_nn, k_pn, k_Nn, k_np, k_Np, k_pp, not_true_eq_false, not_false_eq_true, if_true, if_false, ite_true, ite_false, Wd.worth]
          refine r_app hp' (by rw [List.length_map, sizeLine_eq]; omega) ⟨_, _, rfl, fun c o e => ?_, ?_⟩
          · rw [upd_ne (ne_of_none e hp)]
            exact s _ _ e
          · rw [upd_same, List.map_append]
            rfl
      · rintro σ H' ⟨o3, o4, rfl, s, hp'⟩
        walk_at "w2"
        exact h p H' hp s hp'
theorem f_lay (T : Tx K mg) : Fn P w K mg base 4 "lay" ["memory", "at", "slots"] (sp_lay K) := by
  have c_need_slots := f_need_slots (P := P) (w := w) (base := base) T
  have c_is_whole := f_is_whole (P := P) (w := w) (base := base) T
  have c_Memory_write := f_Memory_write (P := P) (w := w) (base := base) T
  have c_number_word := f_number_word (P := P) (w := w) (base := base) T
  refine T.mkFn 7 18 (d := d_lay) (N := ["memory", "at", "slots", "slot"]) (k := 3) rfl rfl rfl rfl rfl sc_lay (fun _ _ _ _ _ _ us hl => match us, hl with | [_, _, _], _ => rfl) (fun vs H Q E h => ?len) (fun cdv A outer s H vs Q E hr h => ⟨_,
      (pss_cons (ps_expr (pe_fn (takes_of rfl rfl rfl rfl) c_need_slots (hr.mono (by decide)) (by rfl) (pa_cons (pv 2) pa_nil)))
        (pss_cons (ps_if (PW.pt (pw_or (pt_not (pt_val (pe_fn (takes_of rfl rfl rfl rfl) c_is_whole (hr.mono (by decide)) (by rfl) (pa_cons (pv 1) pa_nil)))) (pw_or (pt_cmpR op_lt (pv 1) pe_int (nomark _)) (pw_or1 (pt_cmpR op_ge (pe_op op_gAdd (pv 1) (pv 2)) (pe_fldC (T.cls 66) (T.noat 73) (pv 0)) (nomark _)))))) (pss_one (ps_raiseK (K := K) rfl rfl (takes_of rfl rfl rfl rfl) (T.says.fact 60 rfl) (T.glo 4) (by rfl))) pss_nil)
        (pss_cons (ps_expr (pe_mt (K := K) rfl (takes_of rfl rfl rfl rfl) (pv 0) c_Memory_write (hr.mono (by decide)) (pa_cons (pv 1) (pa_cons (pe_fn (takes_of rfl rfl rfl rfl) c_number_word (hr.mono (by decide)) (by rfl) (pa_cons (pe_op op_gMul pe_int (pv 2)) pa_nil)) pa_nil))))
        (pss_one (ps_for (passes_of rfl) rfl (pi_range1 rfl (T.free 49) (pa_cons (pv 2) pa_nil)) (pg_name (i := 3) sc_lay.nd rfl (Or.inl rfl)) (pss_one (ps_expr (pe_mt (K := K) rfl (takes_of rfl rfl rfl rfl) (pv 0) c_Memory_write (hr.mono (by decide)) (pa_cons (pe_op op_gAdd (pe_op op_gAdd (pv 1) pe_int) (pv 3)) (pa_cons (pe_num (T.num 42) (by rfl)) pa_nil)))))))))), ?rd⟩)
  case len => obtain ⟨m, dx, l, ws, v, z, rfl, _⟩ := h; rfl
  case rd =>
    obtain ⟨m, dx, l, ws, v, z, rfl, M, th, tz, h⟩ := h
    walk_at "w2"
    refine ⟨z, rfl, tz, ?_⟩
    have hz := M.sz
    cases es : slotsW z with
    | none =>
      rw [es] at h
      exact h
    | some s =>
      rw [es] at h
      obtain ⟨rfl, s8⟩ := slotsW_some es
      have h : (match placeOf (ws.length - s) v with
        | none => E (Ex K "NoPlace") none H
        | some i => ∀ H', MemO K H' m dx l (layT ws i s s) → (∀ b o, b ≠ l → H b = some o → H' b = some o) → Q .non H') := h
      dsimp only
      walk_at "w2"
      rcases th with ⟨n, rfl⟩ | o
      · walk_at "w2"
        rw [placeOf_int] at h
        split
        · rw [if_neg (by omega)] at h
          exact h
        · refine ⟨_, fldIs M.ob, ?_⟩
          walk_at "w2"
          split
          · rw [if_neg (by omega)] at h
            exact h
          · rw [if_pos (by omega)] at h
            obtain ⟨i, rfl⟩ := Int.eq_ofNat_of_zero_le (show 0 ≤ n by omega)
            rw [Int.toNat_natCast] at h
            dsimp only at h
            refine ⟨recv M.ob, ?_⟩
            walk_at "w2"
            rw [x_number_word, if_pos (by omega)]
            have e2 : 2 * (4 * (s : Int)) = 8 * (s : Int) := by omega
            rw [e2]
            have e1 : (wordOf (8 * (s : Int))).isSome = true := by rw [← e2, word_num (by omega)]; rfl
            refine ⟨m, dx, l, ws, _, _, rfl, M, .inl ⟨_, rfl⟩, .inl ⟨_, rfl⟩, ?_⟩
            rw [placeOf_int, if_pos ⟨by omega, by omega⟩, wordV_int, if_pos e1, Int.toNat_natCast]
            dsimp only
            walk_at "w2"
            rw [Int.toNat_natCast]
            have M0 : MemO K (upd H l (.lst ((ws.set i (8 * (s : Int))).map V.int))) m dx l (layT ws i s 0) := M.put _ (List.length_set ..)
            refine ⟨by omega, by omega, forW_range (fun t σ H' => ∃ o3, σ = [some (.ref m), some (.int (i : Int)), some (.int (s : Int)), o3] ∧ MemO K H' m dx l (layT ws i s t) ∧ ∀ b o, b ≠ l → H b = some o → H' b = some o) ⟨_, rfl, M0, fun b o hb e => by rw [upd_ne hb]; exact e⟩ ?_ ?_⟩
            · rintro t σ H' ht ⟨o3, rfl, M2, k⟩
              walk_at "w2"
              have ej : (i : Int) + 1 + ((0 : Int) + (t : Int)) = ((i + 1 + t : Nat) : Int) := by omega
              rw [ej]
              have ll := layT_len (ws := ws) (i := i) (s := s) (t := t)
              refine ⟨recv M2.ob, m, dx, l, _, _, _, rfl, M2, .inl ⟨_, rfl⟩, .inl ⟨_, rfl⟩, ?_⟩
              rw [placeOf_int, if_pos ⟨by omega, by omega⟩, wordV_int, if_pos (show (wordOf (-1)).isSome = true from rfl), Int.toNat_natCast]
              dsimp only
              walk_at "w2"
              have M3 := M2.put ((layT ws i s t).set (i + 1 + t) (-1)) (List.length_set ..)
              refine ⟨_, rfl, ?_, fun b o hb e => by rw [upd_ne hb]; exact k b o hb e⟩
              rw [layT_succ]
              exact M3
            · rintro σ H' ⟨o3, rfl, M2, k⟩
              exact h H' M2 k
      · rw [odd_whole o]
        rw [placeOf_odd o] at h
        walk_at "w2"
        exact h
end





local macro_rules | `(tactic| walk_at "w3") => `(tactic| try simp only [↓x_var0, ↓x_varS, ↓x_c, ↓x_op, ↓x_un, ↓x_cb, ↓x_nil, ↓x_cons, ↓x_test, ↓x_b, ↓x_ex, ↓x_and, ↓x_or, ↓x_not, ↓x_andV, ↓x_orV, ↓x_notV, ↓x_tif, ↓x_chain, ↓x_menu, ↓x_menuI, ↓x_lst, ↓x_tup, ↓x_dnew, ↓x_callW, ↓x_callN, ↓x_seq, ↓x_next, ↓x_ret, ↓x_retN, ↓x_drop, ↓x_ifS, ↓x_asg, ↓x_name, ↓x_raise, ↓x_fld, ↓x_setF, ↓x_meth, ↓x_make, ↓x_sub, ↓r_min, ↓r_max, ↓x_yes, ↓x_for, ↓x_cut, ↓x_lc, ↓x_rng1, ↓x_rng2, ↓x_lst1, ↓x_itup, ↓x_rng3, ↓x_three, ↓x_lstg, ↓x_tupg, ↓x_adrS, ↓x_one, ↓x_two, ↓x_adr, ↓x_sl, ↓x_np, ↓x_pt, ↓x_int, ↓x_bm, ↓x_bm0, ↓x_consg, ↓x_nilg, ↓x_dget2, ↓x_dget1, ↓x_dget, ↓x_din, ↓x_dni, ↓x_dput, ↓x_dpop2, ↓r_isB, ↓r_notB, ↓x_enum, wipe, List.map_cons, List.map_nil, ↓x_isT, ↓r_isiII, ↓r_isiBB, ↓r_isiIB, ↓r_isiSS, ↓r_neNS, ↓r_neSN, ↓r_neNN, ↓r_eqNS, ↓r_eqSN, ↓r_eqNN, ↓r_eqIS, ↓r_neIS, ↓r_neSI, ↓r_neBS, ↓r_eqBB, ↓r_neBB, ↓x_start, ↓x_K, ↓x_start0, ↓r_i0, ↓r_i, ↓r_u, ↓r_addI, ↓r_addS, ↓r_mulI, ↓r_mulS, ↓r_eqI, ↓r_neI, ↓r_eqS, ↓r_neS, ↓r_absI, ↓r_intI, ↓r_intB, List.length_cons, List.length_nil, List.replicate, List.set_cons_zero, List.set_cons_succ, decide_eq_true_eq, Bool.not_eq_true', decide_eq_false_iff_not, if_true, if_false, Bool.false_eq_true, Bool.true_eq_false, ite_true, ite_false, Bool.not_true, Bool.not_false, c_div, n_ten, c_pow, not_true_eq_false, not_false_eq_true, decide_true, decide_false, true_and, and_true, and_self, true_or, or_true, Int.reduceLT, Int.reduceLE, Int.reduceMul, Int.reduceAdd, Int.reduceSub, Int.reducePow, Int.reduceNeg, Int.reduceDiv, Int.reduceMod, Nat.reducePow, Int.reduceToNat, Int.reduceEq, Int.reduceNe, Nat.reduceLT, Nat.reduceLeDiff, Nat.reduceAdd, ↓x_whole, ↓x_kind, Int.natCast_one])
inductive AV where
  | non | int (n : Int) | kids (ks : List Int)
inductive Ans where
  | told (v : AV) | err (s : Str)
def Hd.ans : Hd → (Nat → Nat → Ans) → Ans
  | .noPlace, _ => .err "place value"
  | .noCell, _ => .err "cell value"
  | .ok i h, f => f i h
/-- what a deed answers, and the words behind it -/
def ansOf (ws : List Int) (way : Int) (v z : V) : Ans :=
  if way = 0 then (headW ws v).ans fun _ h => .told (.int ((h / 4 : Nat) : Int))
  else if way = 1 then (headW ws v).ans fun _ h => .told (.int ((h % 4 : Nat) : Int))
  else if way = 2 then (headW ws v).ans fun _ h => .told (.int ((h / 4 + 1 : Nat) : Int))
  else if way = 3 then (headW ws v).ans fun i h => .told (.kids (kidsT ws i (h / 4)))
  else if way = 4 then (match placeOf ws.length v with
    | none => .err "place value"
    | some i => match wordOf (ws.getD i 0) with
      | some (.place p) => .told (.int p)
      | _ => match headAt (ws.getD i 0) with
        | none => .err "cell value"
        | some _ => .told .non)
  else if way = 5 then (headW ws v).ans fun i h => match placeOf (h / 4) z with
    | none => .err "slot value"
    | some s => .told (.int ((i + 1 + s : Nat) : Int))
  else if way = 6 then (match slotsW z with
    | none => .err "count value"
    | some s => match placeOf (ws.length - s) v with
      | none => .err "place value"
      | some _ => .told .non)
  else if way = 7 then (headW ws v).ans fun _ _ => match ageW z with
    | none => .err "count value"
    | some _ => .told .non
  else (headW ws v).ans fun _ _ => match placeW z with
    | none => .err "place value"
    | some _ => .told .non
def wordsOf (ws : List Int) (way : Int) (v z : V) : List Int :=
  if way = 6 then (match slotsW z with
    | none => ws
    | some s => match placeOf (ws.length - s) v with
      | none => ws
      | some i => layT ws i s s)
  else if way = 7 then (match headW ws v with
    | .ok i h => (match ageW z with
      | none => ws
      | some a => ws.set i (2 * ((4 * (h / 4) + a : Nat) : Int)))
    | _ => ws)
  else if way = 8 then (match headW ws v with
    | .ok i _ => (match placeW z with
      | none => ws
      | some g => ws.set i (2 * g + 1))
    | _ => ws)
  else ws
def Fit (ws : List Int) : Prop := ∀ i h : Nat, i < ws.length → headAt (ws.getD i 0) = some h → i + h / 4 < ws.length
def AvO (H : Hp) (x : V) : AV → Prop
  | .non => x = .non
  | .int n => x = .int n
  | .kids ks => ∃ q, x = .ref q ∧ H q = some (.lst (ks.map V.int))
theorem AvO.same {H H' : Hp} {x : V} {a : AV} (h : AvO H x a) (s : Same H H') : AvO H' x a := by
  cases a with
  | kids ks => exact let ⟨q, e, g⟩ := h; ⟨q, e, s _ _ g⟩
  | _ => exact h
def AnsO (H : Hp) (p : Addr) : Ans → Prop
  | .told v => ∃ x, H p = some (.lst [.str "told", x]) ∧ AvO H x v
  | .err s => H p = some (.lst [.str s])
theorem AnsO.same {H H' : Hp} {p : Addr} {a : Ans} (h : AnsO H p a) (s : Same H H') : AnsO H' p a := by
  cases a with
  | told v => exact let ⟨x, e, g⟩ := h; ⟨x, s _ _ e, g.same s⟩
  | err z => exact s _ _ h
theorem thing_off {H H' : Hp} {l : Addr} {xs ys : List V} {v : V} (h : H l = some (.lst xs)) (h' : H' l = some (.lst ys)) (k : ∀ b o, b ≠ l → H b = some o → H' b = some o) (th : Thing H v) : Thing H' v := th.imp id fun ⟨t, g, ne⟩ => ⟨t, by
  cases v with
  | ref b =>
    have h1 : tyO (H b) = some t := g
    show tyO (H' b) = some t
    by_cases c : b = l
    · subst c
      rw [h] at h1
      rw [h']
      exact h1
    · cases e : H b with
      | none =>
        rw [e] at h1
        cases h1
      | some o =>
        rw [e] at h1
        rw [k b o c e]
        exact h1
  | _ => exact g, ne⟩
theorem ans_err {ws : List Int} {way : Int} {v z : V} {s : Str} (e : ansOf ws way v z = .err s) : s = "place value" ∨ s = "cell value" ∨ s = "slot value" ∨ s = "count value" := by
  unfold ansOf Hd.ans at e
  repeat' split at e
  all_goals try dsimp only at e
  all_goals (repeat' split at e)
  all_goals first
    | (cases e; done)
    | (have e := Ans.err.inj e; subst e; first | exact .inl rfl | exact .inr (.inl rfl) | exact .inr (.inr (.inl rfl)) | exact .inr (.inr (.inr rfl)))
theorem head_iff {n : Int} : (headAt n).isSome = decide (n % 2 = 0 ∧ 0 ≤ n ∧ n ≤ 68 ∧ n / 2 % 4 < 3) := by
  unfold headAt wordOf
  by_cases c1 : n = -1
  · rw [if_pos c1, decide_eq_false (by omega)]
    rfl
  · rw [if_neg c1]
    by_cases c2 : n % 2 = 0 ∧ (n.natAbs : Int) ≤ 2000000000000
    · rw [if_pos c2]
      dsimp only
      split
      · rw [decide_eq_true (by omega)]
        rfl
      · rw [decide_eq_false (by omega)]
        rfl
    · rw [if_neg c2, decide_eq_false (by omega)]
      split <;> first | rfl | (rename_i e; split at e <;> cases e)
theorem ans6 {ws : List Int} {v z : V} : ansOf ws 6 v z = (match slotsW z with
      | none => .err "count value"
      | some s => match placeOf (ws.length - s) v with
        | none => .err "place value"
        | some _ => .told .non) := rfl
theorem ans_noplace {ws : List Int} {way : Int} {v z : V} (h : way ≠ 6) (e : placeOf ws.length v = none) : ansOf ws way v z = .err "place value" := by
  have eh : headW ws v = .noPlace := by unfold headW; rw [e]
  unfold ansOf
  rw [eh, e, if_neg h]
  dsimp only
  repeat' split
  all_goals rfl
theorem ans_nocell {ws : List Int} {way : Int} {i : Nat} {z : V} (h : way ≠ 6) (hi : i < ws.length) (e : headAt (ws.getD i 0) = none) (h4 : way = 4 → ∀ p, wordOf (ws.getD i 0) ≠ some (.place p)) : ansOf ws way (.int (i : Int)) z = .err "cell value" := by
  have ep : placeOf ws.length (.int (i : Int)) = some i := by rw [placeOf_int, if_pos ⟨by omega, by omega⟩, Int.toNat_natCast]
  have eh : headW ws (.int (i : Int)) = .noCell := by
    unfold headW
    rw [ep]
    dsimp only
    rw [e]
  unfold ansOf
  rw [eh, ep, if_neg h]
  by_cases c : way = 4
  · subst c
    rw [if_neg (by decide), if_neg (by decide), if_neg (by decide), if_neg (by decide), if_pos rfl]
    dsimp only
    rw [e]
    cases ew : wordOf (ws.getD i 0) with
    | none => rfl
    | some w =>
      cases w with
      | place p => exact absurd ew (h4 rfl p)
      | _ => rfl
  · rw [if_neg c]
    repeat' split
    all_goals rfl
theorem ans_head {ws : List Int} {way : Int} {i k : Nat} {z : V} (hi : i < ws.length) (e : headAt (ws.getD i 0) = some k) : headW ws (.int (i : Int)) = .ok i k := by
  unfold headW
  rw [placeOf_int, if_pos ⟨by omega, by omega⟩, Int.toNat_natCast]
  dsimp only
  rw [e]
theorem word_inv {x : Int} {w : Wd} (e : wordOf x = some w) : (w = .nothing ∧ x = -1) ∨ (∃ n, w = .num n ∧ x = 2 * n) ∨ ∃ p, w = .place p ∧ x = 2 * p + 1 ∧ 0 < x ∧ p ≤ 9999 := by
  unfold wordOf at e
  split at e
  · cases e
    exact .inl ⟨rfl, ‹_›⟩
  · split at e
    · cases e
      exact .inr (.inl ⟨_, rfl, by omega⟩)
    · split at e
      · cases e
        exact .inr (.inr ⟨_, rfl, by omega, by omega, by omega⟩)
      · cases e
def gKid : V → Option V
  | .int x => if x % 2 = 1 ∧ 0 < x then some (.int (x / 2)) else none
  | _ => none
theorem kid_word {x : Int} {w : Wd} (e : wordOf x = some w) : (gKid (.int x)).toList = (match w with
    | .place p => [p]
    | _ => []).map V.int := by
  show (if x % 2 = 1 ∧ 0 < x then some (V.int (x / 2)) else none).toList = _
  rcases word_inv e with ⟨rfl, h⟩ | ⟨n, rfl, h⟩ | ⟨p, rfl, h, h2, -⟩
  · rw [if_neg (by omega)]
    rfl
  · rw [if_neg (by omega)]
    rfl
  · have e2 : x / 2 = p := by omega
    rw [if_pos (by omega), e2]
    rfl
theorem kids_take {ws : List Int} (vw : Vw ws) {i : Nat} : ∀ s, i + s < ws.length → (((ws.map V.int).drop (i + 1)).take s).filterMap gKid = (kidsT ws i s).map V.int
  | 0, _ => rfl
  | s + 1, h => by
    have ih := kids_take vw (i := i) s (by omega)
    have hj : i + 1 + s < ws.length := by omega
    obtain ⟨w, ew⟩ := vw.get hj
    have eg : ((ws.map V.int).drop (i + 1))[s]? = some (.int (ws.getD (i + 1 + s) 0)) := by rw [List.getElem?_drop, List.getElem?_map, getD_at (d := 0) hj]; rfl
    rw [List.take_add_one, eg, List.filterMap_append, ih, kidsT_succ, List.map_append, ew]
    congr 1
    have := kid_word ew
    cases w with
    | _ => simpa [List.filterMap_cons] using (by
      show List.filterMap gKid [V.int (ws.getD (i + 1 + s) 0)] = _
      cases eg : gKid (.int (ws.getD (i + 1 + s) 0)) with
      | none =>
        rw [eg] at this
        rw [List.filterMap_cons, eg]
        exact this
      | some y =>
        rw [eg] at this
        rw [List.filterMap_cons, eg]
        exact this)
theorem way_rest {way : Int} (a : 0 ≤ way) (b : way ≤ 8) (c : way ≠ 6) (d : ¬ way < 3) (e : way ≠ 3) (f : way ≠ 5) : way = 4 ∨ way = 7 ∨ way = 8 := by omega
def fillT (ws : List Int) (i t : Nat) : List Int := (List.range t).foldl (fun a u => a.set (i + u) (-1)) ws
theorem fillT_succ {ws : List Int} {i t : Nat} : fillT ws i (t + 1) = (fillT ws i t).set (i + t) (-1) := by
  unfold fillT
  rw [List.range_succ, List.foldl_append]
  rfl
theorem fillT_len {ws : List Int} {i t : Nat} : (fillT ws i t).length = ws.length := by
  induction t with
  | zero => rfl
  | succ t ih => rw [fillT_succ, List.length_set, ih]
theorem fill_lay {ws : List Int} {i s : Nat} : ∀ t, (fillT ws i (t + 1)).set i (8 * (s : Int)) = layT ws i s t
  | 0 => by
    show (ws.set (i + 0) (-1)).set i (8 * (s : Int)) = ws.set i (8 * (s : Int))
    rw [Nat.add_zero, List.set_set]
  | t + 1 => by
    rw [fillT_succ, List.set_comm _ _ (by omega), fill_lay t, layT_succ]
    congr 1
    omega
/-- the error's class by what it is called -/
def errN (s : Str) : Str := if s = "place value" then "NoPlace" else if s = "cell value" then "NoCell" else if s = "slot value" then "NoSlot" else "BadCount"
def sp_asked (K : PySem.W.Frag) : Sp := fun vs H Q E => ∃ way m dx l ws v z, vs = [.int way, .ref m, v, z] ∧ MemO K H m dx l ws ∧ Vw ws ∧ Fit ws ∧ 0 ≤ way ∧ way ≤ 8 ∧ Thing H v ∧ Thing H z ∧ match ansOf ws way v z with
  | .told a => ∀ x H', AvO H' x a → (∀ q, x = .ref q → H q = none) → MemO K H' m dx l (wordsOf ws way v z) → (∀ b o, b ≠ l → H b = some o → H' b = some o) → (∀ v, Thing H v → Thing H' v) → Q x H'
  | .err s => wordsOf ws way v z = ws → ∀ H', Same H H' → E (Ex K (errN s)) none H'
def sp_told (K : PySem.W.Frag) : Sp := fun vs H Q _ => ∃ way m dx l ws v z, vs = [.int way, .ref m, v, z] ∧ MemO K H m dx l ws ∧ Vw ws ∧ Fit ws ∧ 0 ≤ way ∧ way ≤ 8 ∧ Thing H v ∧ Thing H z ∧
  ∀ p H', H p = none → AnsO H' p (ansOf ws way v z) → (∀ q, H' p = some (.lst [.str "told", .ref q]) → H q = none) → MemO K H' m dx l (wordsOf ws way v z) → (∀ b o, b ≠ l → H b = some o → H' b = some o) → (∀ v, Thing H v → Thing H' v) → Q (.ref p) H'
def sp_is_head (_ : PySem.W.Frag) : Sp := fun vs H Q _ => ∃ n, vs = [.int n] ∧ Q (.bl (headAt n).isSome) H
def sp_due (K : PySem.W.Frag) : Sp := fun vs H Q _ => ∃ way r ws v z, vs = [.int way, .ref r, v, z] ∧ H r = some (.lst (ws.map V.int)) ∧ ws.length ≤ 4000 ∧ Vw ws ∧ Fit ws ∧ 0 ≤ way ∧ way ≤ 8 ∧ Thing H v ∧ Thing H z ∧
  ∀ p H', H p = none → Same H H' → AnsO H' p (ansOf ws way v z) → Q (.ref p) H'
def sp_lsame (K : PySem.W.Frag) : Sp := fun vs H Q _ => ∃ p q a, vs = [.ref p, .ref q] ∧ AnsO H p a ∧ AnsO H q a ∧ (match a with
  | .told (.kids ks) => ks.length ≤ 8
  | _ => True) ∧ ∀ H', Same H H' → Q (.bl true) H'
/-- the law's own row after a deed that was told -/
def sp_ldone (_ : PySem.W.Frag) : Sp := fun vs H Q _ => ∃ way r ws v z, vs = [.int way, .ref r, v, z] ∧ H r = some (.lst (ws.map V.int)) ∧ ws.length ≤ 4000 ∧ (∃ a, ansOf ws way v z = .told a) ∧ (way = 6 ∨ way = 7 ∨ way = 8) ∧
  ∀ H', H' r = some (.lst ((wordsOf ws way v z).map V.int)) → (∀ b o, b ≠ r → H b = some o → H' b = some o) → Q .non H'
section
variable {P : Program} {w : World} {K : PySem.W.Frag} {mg : Str → Option Value} {base : Heap}
theorem f__law_asked (T : Tx K mg) : Fn P w K mg base 7 "_law_asked" ["_law_way", "_law_memory", "_law_at", "_law_more"] (sp_asked K) := by
  have c_slots_of := f_slots_of (P := P) (w := w) (base := base) T
  have c_age_of := f_age_of (P := P) (w := w) (base := base) T
  have c_words_of := f_words_of (P := P) (w := w) (base := base) T
  have c_children := f_children (P := P) (w := w) (base := base) T
  have c_sent_to := f_sent_to (P := P) (w := w) (base := base) T
  have c_slot_place := f_slot_place (P := P) (w := w) (base := base) T
  have c_lay := f_lay (P := P) (w := w) (base := base) T
  have c_aged := f_aged (P := P) (w := w) (base := base) T
  have c_send := f_send (P := P) (w := w) (base := base) T
  refine T.mkFn 26 31 (d := d__law_asked) (N := ["_law_way", "_law_memory", "_law_at", "_law_more"]) (k := 6) rfl rfl rfl rfl rfl sc__law_asked (fun _ _ _ _ _ _ us hl => match us, hl with | [_, _, _, _], _ => rfl) (fun vs H Q E h => ?len) (fun cdv A outer s H vs Q E hr h => ⟨_,
      (pss_cons (ps_if (pt_cmpR (op_eqK (K := K) rfl hr.units) (pv 0) pe_int (nomark _)) (pss_one (ps_ret (pe_fn (takes_of rfl rfl rfl rfl) c_slots_of (hr.mono (by decide)) (by rfl) (pa_cons (pv 1) (pa_cons (pv 2) pa_nil))))) pss_nil)
        (pss_cons (ps_if (pt_cmpR (op_eqK (K := K) rfl hr.units) (pv 0) pe_int (nomark _)) (pss_one (ps_ret (pe_fn (takes_of rfl rfl rfl rfl) c_age_of (hr.mono (by decide)) (by rfl) (pa_cons (pv 1) (pa_cons (pv 2) pa_nil))))) pss_nil)
        (pss_cons (ps_if (pt_cmpR (op_eqK (K := K) rfl hr.units) (pv 0) pe_int (nomark _)) (pss_one (ps_ret (pe_fn (takes_of rfl rfl rfl rfl) c_words_of (hr.mono (by decide)) (by rfl) (pa_cons (pv 1) (pa_cons (pv 2) pa_nil))))) pss_nil)
        (pss_cons (ps_if (pt_cmpR (op_eqK (K := K) rfl hr.units) (pv 0) pe_int (nomark _)) (pss_one (ps_ret (pe_fn (takes_of rfl rfl rfl rfl) c_children (hr.mono (by decide)) (by rfl) (pa_cons (pv 1) (pa_cons (pv 2) pa_nil))))) pss_nil)
        (pss_cons (ps_if (pt_cmpR (op_eqK (K := K) rfl hr.units) (pv 0) pe_int (nomark _)) (pss_one (ps_ret (pe_fn (takes_of rfl rfl rfl rfl) c_sent_to (hr.mono (by decide)) (by rfl) (pa_cons (pv 1) (pa_cons (pv 2) pa_nil))))) pss_nil)
        (pss_cons (ps_if (pt_cmpR (op_eqK (K := K) rfl hr.units) (pv 0) pe_int (nomark _)) (pss_one (ps_ret (pe_fn (takes_of rfl rfl rfl rfl) c_slot_place (hr.mono (by decide)) (by rfl) (pa_cons (pv 1) (pa_cons (pv 2) (pa_cons (pv 3) pa_nil)))))) pss_nil)
        (pss_cons (ps_if (pt_cmpR (op_eqK (K := K) rfl hr.units) (pv 0) pe_int (nomark _)) (pss_one (ps_ret (pe_fn (takes_of rfl rfl rfl rfl) c_lay (hr.mono (by decide)) (by rfl) (pa_cons (pv 1) (pa_cons (pv 2) (pa_cons (pv 3) pa_nil)))))) pss_nil)
        (pss_cons (ps_if (pt_cmpR (op_eqK (K := K) rfl hr.units) (pv 0) pe_int (nomark _)) (pss_one (ps_ret (pe_fn (takes_of rfl rfl rfl rfl) c_aged (hr.mono (by decide)) (by rfl) (pa_cons (pv 1) (pa_cons (pv 2) (pa_cons (pv 3) pa_nil)))))) pss_nil)
        (pss_one (ps_ret (pe_fn (takes_of rfl rfl rfl rfl) c_send (hr.mono (by decide)) (by rfl) (pa_cons (pv 1) (pa_cons (pv 2) (pa_cons (pv 3) pa_nil)))))))))))))), ?rd⟩)
  case len => obtain ⟨way, m, dx, l, ws, v, z, rfl, _⟩ := h; rfl
  case rd =>
    obtain ⟨way, m, dx, l, ws, v, z, rfl, M, vw, ft, w0, w8, th, tz, h⟩ := h
    have cw : way = 0 ∨ way = 1 ∨ way = 2 ∨ way = 3 ∨ way = 4 ∨ way = 5 ∨ way = 6 ∨ way = 7 ∨ way = 8 := by omega
    rcases cw with rfl | rfl | rfl | rfl | rfl | rfl | rfl | rfl | rfl
    · walk_at "w3"
      refine ⟨m, dx, l, ws, v, rfl, M, vw, th, ?_⟩
      have eA : ansOf ws 0 v z = (headW ws v).ans fun _ h => .told (.int ((h / 4 : Nat) : Int)) := rfl
      rw [eA] at h
      cases e : headW ws v with
      | noPlace =>
        rw [e] at h
        exact h rfl _ (Same.refl _)
      | noCell =>
        rw [e] at h
        exact h rfl _ (Same.refl _)
      | ok i k =>
        rw [e] at h
        exact h _ _ rfl (fun _ e => by cases e) M (fun _ _ _ e => e) fun _ t => t
    · walk_at "w3"
      refine ⟨m, dx, l, ws, v, rfl, M, vw, th, ?_⟩
      have eA : ansOf ws 1 v z = (headW ws v).ans fun _ h => .told (.int ((h % 4 : Nat) : Int)) := rfl
      rw [eA] at h
      cases e : headW ws v with
      | noPlace =>
        rw [e] at h
        exact h rfl _ (Same.refl _)
      | noCell =>
        rw [e] at h
        exact h rfl _ (Same.refl _)
      | ok i k =>
        rw [e] at h
        exact h _ _ rfl (fun _ e => by cases e) M (fun _ _ _ e => e) fun _ t => t
    · walk_at "w3"
      refine ⟨m, dx, l, ws, v, rfl, M, vw, th, ?_⟩
      have eA : ansOf ws 2 v z = (headW ws v).ans fun _ h => .told (.int ((h / 4 + 1 : Nat) : Int)) := rfl
      rw [eA] at h
      cases e : headW ws v with
      | noPlace =>
        rw [e] at h
        exact h rfl _ (Same.refl _)
      | noCell =>
        rw [e] at h
        exact h rfl _ (Same.refl _)
      | ok i k =>
        rw [e] at h
        exact h _ _ rfl (fun _ e => by cases e) M (fun _ _ _ e => e) fun _ t => t
    · walk_at "w3"
      refine ⟨m, dx, l, ws, v, rfl, M, vw, th, ?_⟩
      have eA : ansOf ws 3 v z = (headW ws v).ans fun i h => .told (.kids (kidsT ws i (h / 4))) := rfl
      rw [eA] at h
      cases e : headW ws v with
      | noPlace =>
        rw [e] at h
        exact h rfl
      | noCell =>
        rw [e] at h
        exact h rfl
      | ok i k =>
        rw [e] at h
        obtain ⟨rfl, hi, eh⟩ := head_ok e
        exact ⟨ft i k hi eh, fun p H' hp s e => h _ _ ⟨p, rfl, e⟩ (fun q e2 => by cases e2; exact hp) (M.same s) (fun b o _ e => s _ _ e) fun _ t => thing_same s t⟩
    · walk_at "w3"
      refine ⟨m, dx, l, ws, v, rfl, M, vw, th, ?_⟩
      have eA : ansOf ws 4 v z = (match placeOf ws.length v with
        | none => .err "place value"
        | some i => match wordOf (ws.getD i 0) with
          | some (.place p) => .told (.int p)
          | _ => match headAt (ws.getD i 0) with
            | none => .err "cell value"
            | some _ => .told .non) := rfl
      rw [eA] at h
      cases e : placeOf ws.length v with
      | none =>
        rw [e] at h
        exact h rfl _ (Same.refl _)
      | some i =>
        rw [e] at h
        obtain ⟨rfl, hi⟩ := placeOf_some e
        obtain ⟨w, ew⟩ := vw.get hi
        dsimp only at h ⊢
        rw [ew] at h ⊢
        have tail : (∀ h' : headAt (ws.getD i 0) = none ∨ ∃ k, headAt (ws.getD i 0) = some k, (match (match headAt (ws.getD i 0) with
            | none => Ans.err "cell value"
            | some _ => .told .non) with
            | .told a => ∀ x H', AvO H' x a → (∀ q, x = .ref q → H q = none) → MemO K H' m dx l (wordsOf ws 4 (.int (i : Int)) z) → (∀ b o, b ≠ l → H b = some o → H' b = some o) → (∀ v, Thing H v → Thing H' v) → Q x H'
            | .err s => wordsOf ws 4 (.int (i : Int)) z = ws → ∀ H', Same H H' → E (Ex K (errN s)) none H')) → (match headAt (ws.getD i 0) with
            | none => E (Ex K "NoCell") none H
            | some _ => Q .non H) := fun h => by
          cases eh : headAt (ws.getD i 0) with
          | none =>
            have h := h (.inl eh)
            rw [eh] at h
            exact h rfl _ (Same.refl _)
          | some k =>
            have h := h (.inr ⟨k, eh⟩)
            rw [eh] at h
            exact h _ _ rfl (fun _ e => by cases e) M (fun _ _ _ e => e) fun _ t => t
        cases w with
        | nothing => exact tail fun _ => h
        | num n => exact tail fun _ => h
        | place g => exact h _ _ rfl (fun _ e => by cases e) M (fun _ _ _ e => e) fun _ t => t
    · walk_at "w3"
      refine ⟨m, dx, l, ws, v, z, rfl, M, vw, th, tz, ?_⟩
      have eA : ansOf ws 5 v z = (headW ws v).ans fun i h => match placeOf (h / 4) z with
        | none => .err "slot value"
        | some s => .told (.int ((i + 1 + s : Nat) : Int)) := rfl
      rw [eA] at h
      cases e : headW ws v with
      | noPlace =>
        rw [e] at h
        exact h rfl _ (Same.refl _)
      | noCell =>
        rw [e] at h
        exact h rfl _ (Same.refl _)
      | ok i k =>
        rw [e] at h
        have h : (match (match placeOf (k / 4) z with
            | none => Ans.err "slot value"
            | some s => .told (.int ((i + 1 + s : Nat) : Int))) with
            | .told a => ∀ x H', AvO H' x a → (∀ q, x = .ref q → H q = none) → MemO K H' m dx l (wordsOf ws 5 v z) → (∀ b o, b ≠ l → H b = some o → H' b = some o) → (∀ v, Thing H v → Thing H' v) → Q x H'
            | .err s => wordsOf ws 5 v z = ws → ∀ H', Same H H' → E (Ex K (errN s)) none H') := h
        dsimp only
        cases e2 : placeOf (k / 4) z with
        | none =>
          rw [e2] at h
          exact h rfl _ (Same.refl _)
        | some s =>
          rw [e2] at h
          exact h _ _ rfl (fun _ e => by cases e) M (fun _ _ _ e => e) fun _ t => t
    · walk_at "w3"
      refine ⟨m, dx, l, ws, v, z, rfl, M, th, tz, ?_⟩
      have eA : ansOf ws 6 v z = (match slotsW z with
        | none => .err "count value"
        | some s => match placeOf (ws.length - s) v with
          | none => .err "place value"
          | some _ => .told .non) := rfl
      have eW : wordsOf ws 6 v z = (match slotsW z with
        | none => ws
        | some s => match placeOf (ws.length - s) v with
          | none => ws
          | some i => layT ws i s s) := rfl
      rw [eA, eW] at h
      cases e : slotsW z with
      | none =>
        rw [e] at h
        exact h rfl _ (Same.refl _)
      | some s =>
        rw [e] at h
        dsimp only at h ⊢
        cases e2 : placeOf (ws.length - s) v with
        | none =>
          rw [e2] at h
          exact h rfl _ (Same.refl _)
        | some i =>
          rw [e2] at h
          exact fun H' M' k => h _ _ rfl (fun _ e => by cases e) M' k fun _ t => thing_off M.ls M'.ls k t
    · walk_at "w3"
      refine ⟨m, dx, l, ws, v, z, rfl, M, vw, th, tz, ?_⟩
      have eA : ansOf ws 7 v z = (headW ws v).ans fun _ _ => match ageW z with
        | none => .err "count value"
        | some _ => .told .non := rfl
      rw [eA] at h
      cases e : headW ws v with
      | noPlace =>
        rw [e] at h
        exact h (by show wordsOf ws 7 v z = ws; unfold wordsOf; simp [e]) _ (Same.refl _)
      | noCell =>
        rw [e] at h
        exact h (by show wordsOf ws 7 v z = ws; unfold wordsOf; simp [e]) _ (Same.refl _)
      | ok i k =>
        rw [e] at h
        have h : (match (match ageW z with
            | none => Ans.err "count value"
            | some _ => .told .non) with
            | .told a => ∀ x H', AvO H' x a → (∀ q, x = .ref q → H q = none) → MemO K H' m dx l (wordsOf ws 7 v z) → (∀ b o, b ≠ l → H b = some o → H' b = some o) → (∀ v, Thing H v → Thing H' v) → Q x H'
            | .err s => wordsOf ws 7 v z = ws → ∀ H', Same H H' → E (Ex K (errN s)) none H') := h
        have eW : wordsOf ws 7 v z = (match ageW z with
          | none => ws
          | some a => ws.set i (2 * ((4 * (k / 4) + a : Nat) : Int))) := by
          show (match headW ws v with
            | .ok i k => (match ageW z with
              | none => ws
              | some a => ws.set i (2 * ((4 * (k / 4) + a : Nat) : Int)))
            | _ => ws) = _
          rw [e]
        rw [eW] at h
        dsimp only
        cases e2 : ageW z with
        | none =>
          rw [e2] at h
          exact h rfl _ (Same.refl _)
        | some a =>
          rw [e2] at h
          exact h _ _ rfl (fun _ e => by cases e) (M.put _ (List.length_set ..)) (fun b o hb e => by rw [upd_ne hb]; exact e) fun _ t => thing_upd M.ls rfl t
    · walk_at "w3"
      refine ⟨m, dx, l, ws, v, z, rfl, M, vw, th, tz, ?_⟩
      have eA : ansOf ws 8 v z = (headW ws v).ans fun _ _ => match placeW z with
        | none => .err "place value"
        | some _ => .told .non := rfl
      rw [eA] at h
      cases e : headW ws v with
      | noPlace =>
        rw [e] at h
        exact h (by show wordsOf ws 8 v z = ws; unfold wordsOf; simp [e]) _ (Same.refl _)
      | noCell =>
        rw [e] at h
        exact h (by show wordsOf ws 8 v z = ws; unfold wordsOf; simp [e]) _ (Same.refl _)
      | ok i k =>
        rw [e] at h
        have h : (match (match placeW z with
            | none => Ans.err "place value"
            | some _ => .told .non) with
            | .told a => ∀ x H', AvO H' x a → (∀ q, x = .ref q → H q = none) → MemO K H' m dx l (wordsOf ws 8 v z) → (∀ b o, b ≠ l → H b = some o → H' b = some o) → (∀ v, Thing H v → Thing H' v) → Q x H'
            | .err s => wordsOf ws 8 v z = ws → ∀ H', Same H H' → E (Ex K (errN s)) none H') := h
        have eW : wordsOf ws 8 v z = (match placeW z with
          | none => ws
          | some a => ws.set i (2 * a + 1)) := by
          show (match headW ws v with
            | .ok i k => (match placeW z with
              | none => ws
              | some a => ws.set i (2 * a + 1))
            | _ => ws) = _
          rw [e]
        rw [eW] at h
        dsimp only
        cases e2 : placeW z with
        | none =>
          rw [e2] at h
          exact h rfl _ (Same.refl _)
        | some a =>
          rw [e2] at h
          exact h _ _ rfl (fun _ e => by cases e) (M.put _ (List.length_set ..)) (fun b o hb e => by rw [upd_ne hb]; exact e) fun _ t => thing_upd M.ls rfl t
theorem f__law_told (T : Tx K mg) : Fn P w K mg base 8 "_law_told" ["_law_way", "_law_memory", "_law_at", "_law_more"] (sp_told K) := by
  have c__law_asked := f__law_asked (P := P) (w := w) (base := base) T
  have c__law_names := f__law_names (P := P) (w := w) (base := base) T
  refine T.mkFn 27 32 (d := d__law_told) (N := ["_law_way", "_law_memory", "_law_at", "_law_more", "_law_e"]) (k := 7) rfl rfl rfl rfl rfl sc__law_told (fun _ _ _ _ _ _ us hl => match us, hl with | [_, _, _, _], _ => rfl) (fun vs H Q E h => ?len) (fun cdv A outer s H vs Q E hr h => ⟨_,
      (pss_one (ps_tryT (i := 4) rfl rfl rfl sc__law_told.nd rfl rfl ⟨by rfl, by decide, Or.inl (T.glo 0)⟩ (takes_of rfl rfl rfl rfl) (fun W pn xe tk po => (pss_one (ps_ret (pe_lst (pa_cons pe_str (pa_cons (pe_fn tk c__law_asked (hr.mono (by decide)) (by rfl) (pa_cons (pv 0) (pa_cons (pv 1) (pa_cons (pv 2) (pa_cons (pv 3) pa_nil))))) pa_nil)))))) (fun a pn => (pss_one (ps_ret (pe_lst (pa_cons (pe_fnH c__law_names (roomN_mark (hr.mono (by decide))) (by rfl) (pa_cons (pv 4) pa_nil)) pa_nil))))))), ?rd⟩)
  case len => obtain ⟨way, m, dx, l, ws, v, z, rfl, _⟩ := h; rfl
  case rd =>
    obtain ⟨way, m, dx, l, ws, v, z, rfl, M, vw, ft, w0, w8, th, tz, q⟩ := h
    walk_at "w3"
    refine ⟨way, m, dx, l, ws, v, z, rfl, M, vw, ft, w0, w8, th, tz, ?_⟩
    cases e : ansOf ws way v z with
    | told a =>
      rw [e] at q
      dsimp only
      intro x H' ax nx M' k t
      walk_at "w3"
      refine ⟨by rw [sizeLine_eq]; omega, fun p hp => ?_⟩
      have sp := same_new (o := .lst [.str "told", x]) hp
      have hp0 : H p = none := by
        cases e : H p with
        | none => rfl
        | some o =>
          by_cases c : p = l
          · rw [c, M'.ls] at hp
            cases hp
          · rw [k p o c e] at hp
            cases hp
      exact q p _ hp0 ⟨x, upd_same, ax.same sp⟩ (fun q e => by rw [upd_same] at e; cases e; exact nx q rfl) (M'.same sp) (fun b o hb e => sp _ _ (k b o hb e)) fun v tv => thing_same sp (t v tv)
    | err s =>
      rw [e] at q
      dsimp only
      intro ew H' s1
      rw [ew] at q
      rcases ans_err e with rfl | rfl | rfl | rfl
      all_goals
        first
          | rw [show errN "place value" = "NoPlace" by decide +kernel]
          | rw [show errN "cell value" = "NoCell" by decide +kernel]
          | rw [show errN "slot value" = "NoSlot" by decide +kernel]
          | rw [show errN "count value" = "BadCount" by decide +kernel]
        refine T.caught (by decide +kernel) (by decide +kernel) (by decide +kernel) fun a ha => ?_
        walk_at "w3"
        refine ⟨a, _, _, rfl, upd_same, by first | exact (by decide +kernel : (("NoPlace", "place value") : Str × Str) ∈ tabN) | exact (by decide +kernel : (("NoCell", "cell value") : Str × Str) ∈ tabN) | exact (by decide +kernel : (("NoSlot", "slot value") : Str × Str) ∈ tabN) | exact (by decide +kernel : (("BadCount", "count value") : Str × Str) ∈ tabN), ?_⟩
        walk_at "w3"
        refine ⟨by rw [sizeLine_eq]; omega, fun p hp => ?_⟩
        have hp0 := none_of (s1.trans (same_new ha)) hp
        exact q p _ hp0 upd_same (fun q e => by rw [upd_same] at e; cases e) (M.same (s1.trans ((same_new ha).trans (same_new hp)))) (fun b o _ e => (s1.trans ((same_new ha).trans (same_new hp))) _ _ e) fun v tv => thing_same (s1.trans ((same_new ha).trans (same_new hp))) tv
theorem f__law_is_head (T : Tx K mg) : Fn P w K mg base 1 "_law_is_head" ["_law_word"] (sp_is_head K) := by
  refine T.mkFn 28 33 (d := d__law_is_head) (N := ["_law_word"]) (k := 0) rfl rfl rfl rfl rfl sc__law_is_head (fun _ _ _ _ _ _ us hl => match us, hl with | [_], _ => rfl) (fun vs H Q E h => ?len) (fun cdv A outer s H vs Q E hr h => ⟨_,
      (pss_one (ps_ret (pe_and (pe_cmpR (op_eqK (K := K) rfl hr.units) (pe_op op_mod (pv 0) pe_int) pe_int (nomark _)) (pe_and (pe_chain op_le op_le pe_int (pv 0) (pe_op op_gMul pe_int pe_int)) (pe_one (pe_cmpR op_lt (pe_op op_mod (pe_op op_fdiv (pv 0) pe_int) pe_int) pe_int (nomark _))))))), ?rd⟩)
  case len => obtain ⟨n, rfl, _⟩ := h; rfl
  case rd =>
    obtain ⟨n, rfl, q⟩ := h
    rw [head_iff] at q
    walk_at "w3"
    have qF : ¬ (n % 2 = 0 ∧ 0 ≤ n ∧ n ≤ 68 ∧ n / 2 % 4 < 3) → Q (.bl false) H := fun c => by rw [decide_eq_false c] at q; exact q
    split
    · split
      · split
        · by_cases c : n / 2 % 4 < 3
          · rw [decide_eq_true (show n % 2 = 0 ∧ 0 ≤ n ∧ n ≤ 68 ∧ n / 2 % 4 < 3 by omega)] at q
            rw [decide_eq_true c]
            exact q
          · rw [decide_eq_false c]
            exact qF (by omega)
        · exact qF (by omega)
      · exact qF (by omega)
    · exact qF (by omega)
theorem f__law_due (T : Tx K mg) : Fn P w K mg base 2 "_law_due" ["_law_way", "_law_row", "_law_at", "_law_more"] (sp_due K) := by
  have c__law_whole := f__law_whole (P := P) (w := w) (base := base) T
  have c__law_is_head := f__law_is_head (P := P) (w := w) (base := base) T
  refine T.mkFn 29 34 (d := d__law_due) (N := ["_law_way", "_law_row", "_law_at", "_law_more", "_law_slots", "_law_inner", "_law_word"]) (k := 1) rfl rfl rfl rfl rfl sc__law_due (fun _ _ _ _ _ _ us hl => match us, hl with | [_, _, _, _], _ => rfl) (fun vs H Q E h => ?len) (fun cdv A outer s H vs Q E hr h => ⟨_,
      (pss_cut (ps_if (pt_cmpR (op_eqK (K := K) rfl hr.units) (pv 0) pe_int (nomark _)) (pss_cons (ps_if (PW.pt (pw_or (pt_not (pt_val (pe_fnH c__law_whole (roomN_of (hr.mono (by decide))) (by rfl) (pa_cons (pv 3) pa_nil)))) (pw_or1 (pt_not (pt_chain op_le op_le pe_int (pv 3) pe_int))))) (pss_one (ps_ret (pe_lst (pa_cons pe_str pa_nil)))) pss_nil)
        (pss_cons (ps_if (PW.pt (pw_or (pt_not (pt_val (pe_fnH c__law_whole (roomN_of (hr.mono (by decide))) (by rfl) (pa_cons (pv 2) pa_nil)))) (pw_or (pt_cmpR op_lt (pv 2) pe_int (nomark _)) (pw_or1 (pt_cmpR op_ge (pe_op op_gAdd (pv 2) (pv 3)) (pe_callB (call_lenK (K := K) rfl) (by rfl) (T.free 47) PySem.boot_len (pa_cons (pv 1) pa_nil)) (nomark _)))))) (pss_one (ps_ret (pe_lst (pa_cons pe_str pa_nil)))) pss_nil)
        (pss_one (ps_ret (pe_lst (pa_cons pe_str (pa_cons pe_non pa_nil))))))) pss_nil)
        (pss_cut (ps_if (PW.pt (pw_or (pt_not (pt_val (pe_fnH c__law_whole (roomN_of (hr.mono (by decide))) (by rfl) (pa_cons (pv 2) pa_nil)))) (pw_or1 (pt_not (pt_chain op_le op_lt pe_int (pv 2) (pe_callB (call_lenK (K := K) rfl) (by rfl) (T.free 47) PySem.boot_len (pa_cons (pv 1) pa_nil))))))) (pss_one (ps_ret (pe_lst (pa_cons pe_str pa_nil)))) pss_nil)
        (pss_cut (ps_if (PW.pt (pw_and (pt_cmpR (op_eqK (K := K) rfl hr.units) (pv 0) pe_int (nomark _)) (pw_and (pt_cmpR (op_eqK (K := K) rfl hr.units) (pe_op op_mod (pe_ix (ix_seqK (K := K) rfl) (pv 1) (pv 2) (fun _ _ => rfl)) pe_int) pe_int (nomark _)) (pw_and1 (pt_cmpR op_gt (pe_ix (ix_seqK (K := K) rfl) (pv 1) (pv 2) (fun _ _ => rfl)) pe_int (nomark _)))))) (pss_one (ps_ret (pe_lst (pa_cons pe_str (pa_cons (pe_op op_fdiv (pe_ix (ix_seqK (K := K) rfl) (pv 1) (pv 2) (fun _ _ => rfl)) pe_int) pa_nil))))) pss_nil)
        (pss_cut (ps_if (pt_not (pt_val (pe_fn (takes_of rfl rfl rfl rfl) c__law_is_head (hr.mono (by decide)) (by rfl) (pa_cons (pe_ix (ix_seqK (K := K) rfl) (pv 1) (pv 2) (fun _ _ => rfl)) pa_nil)))) (pss_one (ps_ret (pe_lst (pa_cons pe_str pa_nil)))) pss_nil)
        (pss_cut (ps_set (i := 4) sc__law_due.nd rfl (Or.inl rfl) (pe_op op_fdiv (pe_ix (ix_seqK (K := K) rfl) (pv 1) (pv 2) (fun _ _ => rfl)) pe_int))
        (pss_cut (ps_if (pt_cmpR op_lt (pv 0) pe_int (nomark _)) (pss_one (ps_ret (pe_lst (pa_cons pe_str (pa_cons (pe_menu (pa_cons (pv 4) (pa_cons (pe_op op_mod (pe_op op_fdiv (pe_ix (ix_seqK (K := K) rfl) (pv 1) (pv 2) (fun _ _ => rfl)) pe_int) pe_int) (pa_cons (pe_op op_gAdd (pv 4) pe_int) pa_nil))) (pv 0) (fun _ _ => rfl)) pa_nil))))) pss_nil)
        (pss_cut (ps_if (pt_cmpR (op_eqK (K := K) rfl hr.units) (pv 0) pe_int (nomark _)) (pss_cons (ps_set (i := 5) sc__law_due.nd rfl (Or.inl rfl) (pe_slice (sl_listK (K := K) rfl) (pv 1) (po_some (pe_op op_gAdd (pv 2) pe_int)) (po_some (pe_op op_gAdd (pe_op op_gAdd (pv 2) pe_int) (pv 4)))))
        (pss_one (ps_ret (pe_lst (pa_cons pe_str (pa_cons (pe_lc (own := [("_law_word", 6)]) (g := gName 6) rfl sc__law_due.nd (pi_listK (K := K) rfl (pv 5)) (blkOk_by (own := [("_law_word", 6)]) (N := ["_law_way", "_law_row", "_law_at", "_law_more", "_law_slots", "_law_inner", "_law_word"]) (sc := defScope s__law_due) (by decide +kernel)) (fun _ _ _ _ _ => (pg_name (i := 6) sc__law_due.nd rfl (Or.inl rfl))) (fun _ _ _ _ _ => pts_one (PW.pt (pw_and (pt_cmpR (op_eqK (K := K) rfl hr.units) (pe_op op_mod (pv 6) pe_int) pe_int (nomark _)) (pw_and1 (pt_cmpR op_gt (pv 6) pe_int (nomark _)))))) (fun _ _ _ _ _ => (pe_op op_fdiv (pv 6) pe_int))) pa_nil)))))) pss_nil)
        (pss_cut (ps_if (pt_cmpR (op_eqK (K := K) rfl hr.units) (pv 0) pe_int (nomark _)) (pss_one (ps_ret (pe_ifExp (PW.pt (pw_and (pt_val (pe_fnH c__law_whole (roomN_of (hr.mono (by decide))) (by rfl) (pa_cons (pv 3) pa_nil))) (pw_and1 (pt_chain op_le op_lt pe_int (pv 3) (pv 4))))) (pe_lst (pa_cons pe_str (pa_cons (pe_op op_gAdd (pe_op op_gAdd (pv 2) pe_int) (pv 3)) pa_nil))) (pe_lst (pa_cons pe_str pa_nil))))) pss_nil)
        (pss_cut (ps_if (PW.pt (pw_and (pt_cmpR (op_eqK (K := K) rfl hr.units) (pv 0) pe_int (nomark _)) (pw_and1 (PW.pt (pw_or (pt_not (pt_val (pe_fnH c__law_whole (roomN_of (hr.mono (by decide))) (by rfl) (pa_cons (pv 3) pa_nil)))) (pw_or1 (pt_not (pt_chain op_le op_le pe_int (pv 3) pe_int)))))))) (pss_one (ps_ret (pe_lst (pa_cons pe_str pa_nil)))) pss_nil)
        (pss_cut (ps_if (PW.pt (pw_and (pt_cmpR (op_eqK (K := K) rfl hr.units) (pv 0) pe_int (nomark _)) (pw_and1 (PW.pt (pw_or (pt_not (pt_val (pe_fnH c__law_whole (roomN_of (hr.mono (by decide))) (by rfl) (pa_cons (pv 3) pa_nil)))) (pw_or1 (pt_not (pt_chain op_le op_le pe_int (pv 3) pe_int)))))))) (pss_one (ps_ret (pe_lst (pa_cons pe_str pa_nil)))) pss_nil)
        (pss_one (ps_ret (pe_lst (pa_cons pe_str (pa_cons pe_non pa_nil))))))))))))))), ?rd⟩)
  case len => obtain ⟨way, r, ws, v, z, rfl, _⟩ := h; rfl
  case rd =>
    obtain ⟨way, r, ws, v, z, rfl, hr, hl, vw, ft, w0, w8, th, tz, q⟩ := h
    have sz : 100 ≤ sizeLine := by rw [sizeLine_eq]; omega
    have bad : ∀ s, ansOf ws way v z = .err s → 1 ≤ sizeLine ∧ ∀ p, H p = none → Q (.ref p) (upd H p (.lst [.str s])) := fun s e => ⟨by omega, fun p hp => q p _ hp (same_new hp) (by rw [e]; exact upd_same)⟩
    have okN : ansOf ws way v z = .told .non → 2 ≤ sizeLine ∧ ∀ p, H p = none → Q (.ref p) (upd H p (.lst [.str "told", .non])) := fun e => ⟨by omega, fun p hp => q p _ hp (same_new hp) (by rw [e]; exact ⟨_, upd_same, rfl⟩)⟩
    have okI : ∀ n, ansOf ws way v z = .told (.int n) → 2 ≤ sizeLine ∧ ∀ p, H p = none → Q (.ref p) (upd H p (.lst [.str "told", .int n])) := fun n e => ⟨by omega, fun p hp => q p _ hp (same_new hp) (by rw [e]; exact ⟨_, upd_same, rfl⟩)⟩
    walk_at "w3"
    refine ⟨fun σ H' => σ = [some (.int way), some (.ref r), some v, some z, none, none, none] ∧ H' = H ∧ way ≠ 6, ?_, ?_⟩
    · split
      · rename_i c
        subst c
        rcases tz with ⟨n, rfl⟩ | o
        · walk_at "w3"
          split
          · split
            · exact bad _ (by rw [ans6, slotsW_int, if_neg (by omega)])
            · have es : slotsW (.int n) = some n.toNat := by rw [slotsW_int, if_pos (by omega)]
              rcases th with ⟨j, rfl⟩ | o
              · walk_at "w3"
                split
                · exact bad _ (by rw [ans6, es]; dsimp only; rw [placeOf_int, if_neg (by omega)])
                · refine r_lenL hr ?_
                  walk_at "w3"
                  rw [List.length_map]
                  split
                  · exact bad _ (by rw [ans6, es]; dsimp only; rw [placeOf_int, if_neg (by omega)])
                  · exact okN (by rw [ans6, es]; dsimp only; rw [placeOf_int, if_pos (by omega)])
              · rw [odd_whole o]
                walk_at "w3"
                exact bad _ (by rw [ans6, es]; dsimp only; rw [placeOf_odd o])
          · exact bad _ (by rw [ans6, slotsW_int, if_neg (by omega)])
        · rw [odd_whole o]
          walk_at "w3"
          exact bad _ (by rw [ans6, slotsW_odd o])
      · rename_i c6
        exact ⟨rfl, rfl, c6⟩
    rintro σ H' ⟨rfl, rfl, c6⟩
    walk_at "w3"
    refine ⟨fun σ H1 => ∃ i : Nat, v = .int (i : Int) ∧ i < ws.length ∧ σ = [some (.int way), some (.ref r), some (.int (i : Int)), some z, none, none, none] ∧ H1 = H', ?_, ?_⟩
    · rcases th with ⟨j, rfl⟩ | o
      · walk_at "w3"
        split
        · refine r_lenL hr ?_
          walk_at "w3"
          rw [List.length_map]
          split
          · exact bad _ (ans_noplace c6 (by rw [placeOf_int, if_neg (by omega)]))
          · obtain ⟨i, rfl⟩ := Int.eq_ofNat_of_zero_le (show 0 ≤ j by omega)
            exact ⟨i, rfl, by omega, rfl⟩
        · exact bad _ (ans_noplace c6 (by rw [placeOf_int, if_neg (by omega)]))
      · rw [odd_whole o]
        walk_at "w3"
        exact bad _ (ans_noplace c6 (placeOf_odd o))
    rintro σ H1 ⟨i, rfl, hi, rfl, rfl⟩
    have ex : (ws.map V.int)[i]? = some (.int (ws.getD i 0)) := by rw [List.getElem?_map, getD_at (d := 0) hi]; rfl
    obtain ⟨w, ew⟩ := vw.get hi
    have wi := word_inv ew
    generalize eX : ws.getD i 0 = x at ex wi
    walk_at "w3"
    refine ⟨fun σ H2 => σ = [some (.int way), some (.ref r), some (.int (i : Int)), some z, none, none, none] ∧ H2 = H1 ∧ (way = 4 → ∀ p, wordOf (ws.getD i 0) ≠ some (.place p)), ?_, ?_⟩
    · split
      · rename_i c4
        subst c4
        refine r_ixL hr ex ?_
        walk_at "w3"
        rcases wi with ⟨rfl, hx⟩ | ⟨n, rfl, hx⟩ | ⟨p, rfl, hx, hp, -⟩
        · have no : (4 : Int) = 4 → ∀ p, wordOf (ws.getD i 0) ≠ some (.place p) := fun _ p e => by rw [ew] at e; cases e
          split
          · refine r_ixL hr ex ?_
            walk_at "w3"
            rw [hx]
            first | exact ⟨rfl, rfl, no⟩ | exact fun _ => no rfl | (walk_at "w3"; exact no rfl) | (rw [if_neg (by decide)]; exact fun _ => no rfl)
          · first | exact ⟨rfl, rfl, no⟩ | exact fun _ => no rfl
        · have no : (4 : Int) = 4 → ∀ p, wordOf (ws.getD i 0) ≠ some (.place p) := fun _ p e => by rw [ew] at e; cases e
          rw [if_neg (by omega)]
          first | exact ⟨rfl, rfl, no⟩ | exact fun _ => no rfl
        · rw [if_pos (by omega)]
          refine r_ixL hr ex ?_
          walk_at "w3"
          rw [if_pos hp]
          refine r_ixL hr ex ?_
          walk_at "w3"
          have e2 : x / 2 = p := by omega
          rw [e2]
          refine okI p ?_
          have ep : placeOf ws.length (.int (i : Int)) = some i := by rw [placeOf_int, if_pos ⟨by omega, by omega⟩, Int.toNat_natCast]
          show (match placeOf ws.length (.int (i : Int)) with
            | none => Ans.err "place value"
            | some i => match wordOf (ws.getD i 0) with
              | some (.place p) => .told (.int p)
              | _ => match headAt (ws.getD i 0) with
                | none => .err "cell value"
                | some _ => .told .non) = _
          rw [ep]
          dsimp only
          rw [ew]
      · rename_i c4
        exact ⟨rfl, rfl, fun h => absurd h c4⟩
    rintro σ H2 ⟨rfl, rfl, h4⟩
    walk_at "w3"
    refine ⟨fun σ H3 => ∃ k : Nat, σ = [some (.int way), some (.ref r), some (.int (i : Int)), some z, none, none, none] ∧ H3 = H2 ∧ headAt (ws.getD i 0) = some k, ?_, ?_⟩
    · refine r_ixL hr ex ⟨_, rfl, ?_⟩
      rw [← eX]
      cases eh : headAt (ws.getD i 0) with
      | none =>
        walk_at "w3"
        exact bad _ (ans_nocell c6 hi eh h4)
      | some k =>
        walk_at "w3"
        first | exact ⟨k, rfl, rfl, eh⟩ | exact ⟨k, rfl⟩ | exact ⟨k, rfl, rfl⟩ | exact ⟨k, rfl, rfl, rfl⟩
    rintro σ H3 ⟨k, rfl, rfl, eh⟩
    obtain ⟨hk, h34, hk2⟩ := headAt_some eh
    rw [eX] at hk
    have eH := ans_head (way := way) (z := z) hi eh
    walk_at "w3"
    refine ⟨fun σ H4 => σ = [some (.int way), some (.ref r), some (.int (i : Int)), some z, some (.int ((k / 4 : Nat) : Int)), none, none] ∧ H4 = H3, ?_, ?_⟩
    · refine r_ixL hr ex ?_
      walk_at "w3"
      have e2 : x / 8 = ((k / 4 : Nat) : Int) := by omega
      rw [e2]
    rintro σ H4 ⟨rfl, rfl⟩
    walk_at "w3"
    refine ⟨fun σ H5 => σ = [some (.int way), some (.ref r), some (.int (i : Int)), some z, some (.int ((k / 4 : Nat) : Int)), none, none] ∧ H5 = H4 ∧ ¬ way < 3, ?_, ?_⟩
    · split
      · rename_i c3
        refine r_ixL hr ex ?_
        walk_at "w3"
        refine ⟨by omega, ?_⟩
        have c : way = 0 ∨ way = 1 ∨ way = 2 := by omega
        rcases c with rfl | rfl | rfl
        · refine ⟨_, rfl, okI _ ?_⟩
          show (headW ws (.int (i : Int))).ans _ = _
          rw [eH]
          rfl
        · have e3 : x / 2 % 4 = ((k % 4 : Nat) : Int) := by omega
          rw [e3]
          refine ⟨_, rfl, okI _ ?_⟩
          show (headW ws (.int (i : Int))).ans _ = _
          rw [eH]
          rfl
        · have e3 : ((k / 4 : Nat) : Int) + 1 = ((k / 4 + 1 : Nat) : Int) := by omega
          rw [e3]
          refine ⟨_, rfl, okI _ ?_⟩
          show (headW ws (.int (i : Int))).ans _ = _
          rw [eH]
          rfl
      · rename_i c3
        exact ⟨rfl, rfl, c3⟩
    rintro σ H5 ⟨rfl, rfl, c3⟩
    walk_at "w3"
    refine ⟨fun σ H6 => σ = [some (.int way), some (.ref r), some (.int (i : Int)), some z, some (.int ((k / 4 : Nat) : Int)), none, none] ∧ H6 = H5 ∧ way ≠ 3, ?_, ?_⟩
    · split
      · rename_i c3
        subst c3
        have fit := ft i k hi eh
        refine ⟨r, _, rfl, .of hr, fun q1 nq1 => ?_⟩
        have sq1 := same_new (o := .lst (cutV (ws.map V.int) (some ((i : Int) + 1)) (some ((i : Int) + 1 + ((k / 4 : Nat) : Int))))) nq1
        have ec : cutV (ws.map V.int) (some ((i : Int) + 1)) (some ((i : Int) + 1 + ((k / 4 : Nat) : Int))) = ((ws.map V.int).drop (i + 1)).take (k / 4) := by
          unfold cutV
          rw [sIx_pos (by omega), sIx_pos (by omega), List.length_map]
          congr 1
          · omega
          · congr 1
            omega
        have cl : (cutV (ws.map V.int) (some ((i : Int) + 1)) (some ((i : Int) + 1 + ((k / 4 : Nat) : Int)))).length ≤ ws.length := by
          rw [ec, List.length_take, List.length_drop, List.length_map]
          omega
        walk_at "w3"
        refine ⟨⟨_, .of upd_same⟩, fun D hD => lc_iffL (xs := cutV (ws.map V.int) (some ((i : Int) + 1)) (some ((i : Int) + 1 + ((k / 4 : Nat) : Int)))) (g := gKid) (fun _ => rfl) (fun acc => .of ((same_new hD) _ _ upd_same)) (by rw [sizeLine_eq]; omega) (fun j y hy acc N n1 n2 => ?_) (fun j y u hy hu acc Q2 q2 => ?_) ?_⟩
        · obtain ⟨b, rfl⟩ := cut_int hy
          have e1 : (gKid (.int b)).isSome = decide (b % 2 = 1 ∧ 0 < b) := by
            show (if b % 2 = 1 ∧ 0 < b then some (V.int (b / 2)) else none).isSome = _
            split
            · rw [decide_eq_true ‹_›]; rfl
            · rw [decide_eq_false ‹_›]; rfl
          rw [e1] at n1 n2
          walk_at "w3"
          split
          · by_cases c : 0 < b
            · rw [decide_eq_true c]
              exact n1 (decide_eq_true (by omega))
            · rw [decide_eq_false c]
              exact n2 (decide_eq_false (by omega))
          · exact n2 (decide_eq_false (by omega))
        · obtain ⟨b, rfl⟩ := cut_int hy
          have hu : (if b % 2 = 1 ∧ 0 < b then some (V.int (b / 2)) else none) = some u := hu
          have eu : u = .int (b / 2) := by
            split at hu
            · exact (Option.some.inj hu).symm
            · cases hu
          subst eu
          walk_at "w3"
          exact q2
        · rw [ec] at sq1 hD
          rw [ec, kids_take vw _ fit]
          have sD := same_new (o := .lst ((kidsT ws i (k / 4)).map V.int)) hD
          refine ⟨by omega, fun p hp => ?_⟩
          have sp := same_new (o := .lst [.str "told", .ref D]) hp
          refine q p _ (none_of (sq1.trans sD) hp) (sq1.trans (sD.trans sp)) ?_
          have eA : ansOf ws 3 (.int (i : Int)) z = .told (.kids (kidsT ws i (k / 4))) := by
            show (headW ws (.int (i : Int))).ans _ = _
            rw [eH]
            rfl
          rw [eA]
          exact ⟨_, upd_same, D, rfl, sp _ _ upd_same⟩
      · rename_i c3
        exact ⟨rfl, rfl, c3⟩
    rintro σ H6 ⟨rfl, rfl, n3⟩
    walk_at "w3"
    refine ⟨fun σ H7 => σ = [some (.int way), some (.ref r), some (.int (i : Int)), some z, some (.int ((k / 4 : Nat) : Int)), none, none] ∧ H7 = H6 ∧ way ≠ 5, ?_, ?_⟩
    · split
      · rename_i c5
        subst c5
        have A5 : ansOf ws 5 (.int (i : Int)) z = (match placeOf (k / 4) z with
          | none => .err "slot value"
          | some s => .told (.int ((i + 1 + s : Nat) : Int))) := by
          show (headW ws (.int (i : Int))).ans _ = _
          rw [eH]
          rfl
        rcases tz with ⟨n, rfl⟩ | o
        · walk_at "w3"
          split
          · split
            · have e2 : (i : Int) + 1 + n = ((i + 1 + n.toNat : Nat) : Int) := by omega
              rw [e2]
              exact okI _ (by rw [A5, placeOf_int, if_pos (by omega)])
            · exact bad _ (by rw [A5, placeOf_int, if_neg (by omega)])
          · exact bad _ (by rw [A5, placeOf_int, if_neg (by omega)])
        · rw [odd_whole o]
          walk_at "w3"
          exact bad _ (by rw [A5, placeOf_odd o])
      · rename_i c5
        exact ⟨rfl, rfl, c5⟩
    rintro σ H7 ⟨rfl, rfl, n5⟩
    walk_at "w3"
    refine ⟨fun σ H8 => σ = [some (.int way), some (.ref r), some (.int (i : Int)), some z, some (.int ((k / 4 : Nat) : Int)), none, none] ∧ H8 = H7 ∧ (way = 7 → (ageW z).isSome), ?_, ?_⟩
    · split
      · rename_i c
        subst c
        have A7 : ansOf ws 7 (.int (i : Int)) z = (match ageW z with
          | none => .err "count value"
          | some _ => .told .non) := by
          show (headW ws (.int (i : Int))).ans _ = _
          rw [eH]
          rfl
        rcases tz with ⟨n, rfl⟩ | o
        · walk_at "w3"
          split
          · split
            · exact bad _ (by rw [A7, ageW_int, if_neg (by omega)])
            · have e3 : (ageW (.int n)).isSome = true := by rw [ageW_int, if_pos (by omega)]; rfl
              first | exact ⟨rfl, rfl, fun _ => e3⟩ | exact fun _ => e3 | exact e3
          · exact bad _ (by rw [A7, ageW_int, if_neg (by omega)])
        · rw [odd_whole o]
          walk_at "w3"
          exact bad _ (by rw [A7, ageW_odd o])
      · rename_i c
        exact ⟨rfl, rfl, fun h => absurd h c⟩
    rintro σ H8 ⟨rfl, rfl, h7⟩
    walk_at "w3"
    refine ⟨fun σ H9 => σ = [some (.int way), some (.ref r), some (.int (i : Int)), some z, some (.int ((k / 4 : Nat) : Int)), none, none] ∧ H9 = H8 ∧ (way = 8 → (placeW z).isSome), ?_, ?_⟩
    · split
      · rename_i c
        subst c
        have A7 : ansOf ws 8 (.int (i : Int)) z = (match placeW z with
          | none => .err "place value"
          | some _ => .told .non) := by
          show (headW ws (.int (i : Int))).ans _ = _
          rw [eH]
          rfl
        rcases tz with ⟨n, rfl⟩ | o
        · walk_at "w3"
          split
          · split
            · exact bad _ (by rw [A7, placeW_int, if_neg (by omega)])
            · have e3 : (placeW (.int n)).isSome = true := by rw [placeW_int, if_pos (by omega)]; rfl
              first | exact ⟨rfl, rfl, fun _ => e3⟩ | exact fun _ => e3 | exact e3
          · exact bad _ (by rw [A7, placeW_int, if_neg (by omega)])
        · rw [odd_whole o]
          walk_at "w3"
          exact bad _ (by rw [A7, placeW_odd o])
      · rename_i c
        exact ⟨rfl, rfl, fun h => absurd h c⟩
    rintro σ H9 ⟨rfl, rfl, h8⟩
    walk_at "w3"
    refine okN ?_
    have cw := way_rest w0 w8 c6 c3 n3 n5
    rcases cw with rfl | rfl | rfl
    · have ep : placeOf ws.length (.int (i : Int)) = some i := by rw [placeOf_int, if_pos ⟨by omega, by omega⟩, Int.toNat_natCast]
      show (match placeOf ws.length (.int (i : Int)) with
        | none => Ans.err "place value"
        | some i => match wordOf (ws.getD i 0) with
          | some (.place p) => .told (.int p)
          | _ => match headAt (ws.getD i 0) with
            | none => .err "cell value"
            | some _ => .told .non) = _
      rw [ep]
      dsimp only
      rw [eh]
      cases w with
      | place p => exact absurd ew (h4 rfl p)
      | nothing => rw [ew]
      | num n => rw [ew]
    · show (headW ws (.int (i : Int))).ans _ = _
      rw [eH]
      obtain ⟨a, ea⟩ := Option.isSome_iff_exists.mp (h7 rfl)
      show (match ageW z with
        | none => Ans.err "count value"
        | some _ => .told .non) = _
      rw [ea]
    · show (headW ws (.int (i : Int))).ans _ = _
      rw [eH]
      obtain ⟨a, ea⟩ := Option.isSome_iff_exists.mp (h8 rfl)
      show (match placeW z with
        | none => Ans.err "place value"
        | some _ => .told .non) = _
      rw [ea]
theorem f__law_same (T : Tx K mg) : Fn P w K mg base 2 "_law_same" ["_law_found", "_law_due_here"] (sp_lsame K) := by
  have c__law_whole := f__law_whole (P := P) (w := w) (base := base) T
  refine T.mkFn 31 36 (d := d__law_same) (N := ["_law_found", "_law_due_here", "_law_one"]) (k := 1) rfl rfl rfl rfl rfl sc__law_same (fun _ _ _ _ _ _ us hl => match us, hl with | [_, _], _ => rfl) (fun vs H Q E h => ?len) (fun cdv A outer s H vs Q E hr h => ⟨_,
      (pss_cons (ps_if (PW.pt (pw_or (pt_cmpR (op_neK (K := K) rfl hr.units) (pe_callB (call_lenK (K := K) rfl) (by rfl) (T.free 47) PySem.boot_len (pa_cons (pv 0) pa_nil)) (pe_callB (call_lenK (K := K) rfl) (by rfl) (T.free 47) PySem.boot_len (pa_cons (pv 1) pa_nil)) (nomark _)) (pw_or1 (pt_cmpR (op_neK (K := K) rfl hr.units) (pe_ix (ix_seqK (K := K) rfl) (pv 0) pe_int (fun _ _ => rfl)) (pe_ix (ix_seqK (K := K) rfl) (pv 1) pe_int (fun _ _ => rfl)) (nomark _))))) (pss_one (ps_ret pe_bl)) pss_nil)
        (pss_cons (ps_if (PW.pt (pw_or (pt_cmpR (op_eqK (K := K) rfl hr.units) (pe_callB (call_lenK (K := K) rfl) (by rfl) (T.free 47) PySem.boot_len (pa_cons (pv 1) pa_nil)) pe_int (nomark _)) (pw_or1 (pt_cmpR op_isN (pe_ix (ix_seqK (K := K) rfl) (pv 1) pe_int (fun _ _ => rfl)) pe_non (nomark _))))) (pss_one (ps_ret (pe_or (pe_cmpR (op_eqK (K := K) rfl hr.units) (pe_callB (call_lenK (K := K) rfl) (by rfl) (T.free 47) PySem.boot_len (pa_cons (pv 1) pa_nil)) pe_int (nomark _)) (pe_one (pe_cmpR op_isN (pe_ix (ix_seqK (K := K) rfl) (pv 0) pe_int (fun _ _ => rfl)) pe_non (nomark _)))))) pss_nil)
        (pss_cons (ps_if (pt_val (pe_callB call_gIsi (by rfl) (T.free 46) (by decide +kernel) (pa_cons (pe_ix (ix_seqK (K := K) rfl) (pv 1) pe_int (fun _ _ => rfl)) (pa_cons (pe_ty (T := "list") (T.free 54) (by decide +kernel) (by rfl)) pa_nil)))) (pss_one (ps_ret (pe_and (pe_callB call_gIsi (by rfl) (T.free 46) (by decide +kernel) (pa_cons (pe_ix (ix_seqK (K := K) rfl) (pv 0) pe_int (fun _ _ => rfl)) (pa_cons (pe_ty (T := "list") (T.free 54) (by decide +kernel) (by rfl)) pa_nil))) (pe_and (pe_cmpR (op_eqK (K := K) rfl hr.units) (pe_ix (ix_seqK (K := K) rfl) (pv 0) pe_int (fun _ _ => rfl)) (pe_ix (ix_seqK (K := K) rfl) (pv 1) pe_int (fun _ _ => rfl)) (nomark _)) (pe_one (pe_callB (call_allK (K := K) rfl rfl) (by rfl) (T.free 51) (by decide +kernel) (pa_cons (pe_lc (own := [("_law_one", 2)]) (g := gName 2) rfl sc__law_same.nd (pi_listK (K := K) rfl (pe_ix (ix_seqK (K := K) rfl) (pv 0) pe_int (fun _ _ => rfl))) (blkOk_by (own := [("_law_one", 2)]) (N := ["_law_found", "_law_due_here", "_law_one"]) (sc := defScope s__law_same) (by decide +kernel)) (fun _ _ _ _ _ => (pg_name (i := 2) sc__law_same.nd rfl (Or.inl rfl))) (fun _ _ _ _ _ => pts_nil) (fun _ _ _ _ _ => (pe_fnH c__law_whole (roomN_of (hr.mono (by decide))) (by rfl) (pa_cons (pv 2) pa_nil)))) pa_nil))))))) pss_nil)
        (pss_one (ps_ret (pe_and (pe_fnH c__law_whole (roomN_of (hr.mono (by decide))) (by rfl) (pa_cons (pe_ix (ix_seqK (K := K) rfl) (pv 0) pe_int (fun _ _ => rfl)) pa_nil)) (pe_one (pe_cmpR (op_eqK (K := K) rfl hr.units) (pe_ix (ix_seqK (K := K) rfl) (pv 0) pe_int (fun _ _ => rfl)) (pe_ix (ix_seqK (K := K) rfl) (pv 1) pe_int (fun _ _ => rfl)) (nomark _))))))))), ?rd⟩)
  case len => obtain ⟨p, q, a, rfl, _⟩ := h; rfl
  case rd =>
    obtain ⟨p, q, a, rfl, hp, hq, sh, fin⟩ := h
    have q0 := fin H (Same.refl H)
    cases a with
    | err s =>
      have hp : H p = some (.lst [.str s]) := hp
      have hq : H q = some (.lst [.str s]) := hq
      walk_at "w3"
      refine r_lenL hp (r_lenL hq ?_)
      walk_at "w3"
      refine r_ixL (i := 0) hp rfl (r_ixL (i := 0) hq rfl ?_)
      walk_at "w3"
      refine r_lenL hq ?_
      walk_at "w3"
      refine r_lenL hq ?_
      walk_at "w3"
      first | exact q0 | (rw [decide_eq_true rfl]; walk_at "w3"; exact q0)
    | told v =>
      obtain ⟨x, hp, ax⟩ := hp
      obtain ⟨y, hq, ay⟩ := hq
      walk_at "w3"
      refine r_lenL hp (r_lenL hq ?_)
      walk_at "w3"
      refine r_ixL (i := 0) hp rfl (r_ixL (i := 0) hq rfl ?_)
      walk_at "w3"
      refine r_lenL hq ?_
      walk_at "w3"
      refine r_ixL (i := 1) hq rfl ?_
      cases v with
      | non =>
        cases ax
        cases ay
        walk_at "w3"
        refine r_lenL hq ?_
        walk_at "w3"
        refine r_ixL (i := 1) hp rfl ?_
        walk_at "w3"
        exact q0
      | int n =>
        cases ax
        cases ay
        rw [if_neg (by intro z; cases z)]
        refine r_ixL (i := 1) hq rfl (r_isi (t := "int") rfl ?_)
        rw [show isB "int" "list" = false by decide]
        walk_at "w3"
        refine r_ixL (i := 1) hp rfl ?_
        walk_at "w3"
        refine r_ixL (i := 1) hp rfl (r_ixL (i := 1) hq rfl ?_)
        walk_at "w3"
        first | exact q0 | (rw [decide_eq_true rfl]; exact q0)
      | kids ks =>
        obtain ⟨q1, rfl, h1⟩ := ax
        obtain ⟨q2, rfl, h2⟩ := ay
        have k8 : ks.length ≤ 8 := sh
        have fI : ∀ x ∈ ks.map V.int, flatI x = true := fun x h => by
          obtain ⟨i, -, e⟩ := List.mem_map.mp h
          subst e
          rfl
        rw [if_neg (by intro z; cases z)]
        refine r_ixL (i := 1) hq rfl (r_isiL h2 ?_)
        walk_at "w3"
        refine r_ixL (i := 1) hp rfl (r_isiL h1 ?_)
        walk_at "w3"
        refine r_ixL (i := 1) hp rfl (r_ixL (i := 1) hq rfl (r_eqSame (dp_flat h1 fI) (dp_flat h2 fI) sh_flat ?_))
        walk_at "w3"
        refine r_ixL (i := 1) hp rfl ?_
        walk_at "w3"
        refine ⟨⟨_, .of h1⟩, fun D hD => lc_list (xs := ks.map V.int) (fun i H' => i ≤ ks.length ∧ H' = upd H D (.lst (List.replicate i (.bl true)))) ⟨by omega, rfl⟩ (fun i H' _ e => ?_) (fun i x H' hx e => ?_) fun H' e => ?_⟩
        · rw [e.2]
          exact .of ((same_new hD) _ _ h1)
        · rw [e.2]
          have hi3 := (List.getElem?_eq_some_iff.mp hx).1
          rw [List.length_map] at hi3
          obtain ⟨w, rfl⟩ : ∃ w, x = .int w := by
            obtain ⟨w, -, e⟩ := List.mem_map.mp (List.mem_of_getElem? hx)
            exact ⟨w, e.symm⟩
          walk_at "w3"
          refine ⟨_, upd_same, by rw [List.length_replicate, sizeLine_eq]; omega, by omega, ?_⟩
          rw [upd_upd, ← List.replicate_succ, List.replicate_succ']
        · rw [e.2, List.length_map]
          refine ⟨D, List.replicate ks.length true, rfl, .of (by rw [List.map_replicate]; exact upd_same), ?_⟩
          rw [show (List.replicate ks.length true).all id = true from List.all_eq_true.mpr fun b hb => (List.mem_replicate.mp hb).2]
          exact fin _ (same_new hD)
theorem f__law_done (T : Tx K mg) : Fn P w K mg base 1 "_law_done" ["_law_way", "_law_row", "_law_at", "_law_more"] (sp_ldone K) := by
  refine T.mkFn 30 35 (d := d__law_done) (N := ["_law_way", "_law_row", "_law_at", "_law_more", "_law_k"]) (k := 0) rfl rfl rfl rfl rfl sc__law_done (fun _ _ _ _ _ _ us hl => match us, hl with | [_, _, _, _], _ => rfl) (fun vs H Q E h => ?len) (fun cdv A outer s H vs Q E hr h => ⟨_,
      (pss_one (ps_if (pt_cmpR (op_eqK (K := K) rfl hr.units) (pv 0) pe_int (nomark _)) (pss_cons (ps_for (passes_of rfl) rfl (pi_range2 rfl (T.free 49) (pa_cons (pv 2) (pa_cons (pe_op op_gAdd (pe_op op_gAdd (pv 2) (pv 3)) pe_int) pa_nil))) (pg_name (i := 4) sc__law_done.nd rfl (Or.inl rfl)) (pss_one (ps_asg (pe_un un_neg pe_int) (pg_sub (pv 1) (pv 4) set_list))))
        (pss_one (ps_asg (pe_op op_gMul pe_int (pv 3)) (pg_sub (pv 1) (pv 2) set_list)))) (pss_one (ps_if (pt_cmpR (op_eqK (K := K) rfl hr.units) (pv 0) pe_int (nomark _)) (pss_one (ps_asg (pe_op op_gAdd (pe_op op_gMul (pe_op op_fdiv (pe_ix (ix_seqK (K := K) rfl) (pv 1) (pv 2) (fun _ _ => rfl)) pe_int) pe_int) (pe_op op_gMul pe_int (pv 3))) (pg_sub (pv 1) (pv 2) set_list))) (pss_one (ps_if (pt_cmpR (op_eqK (K := K) rfl hr.units) (pv 0) pe_int (nomark _)) (pss_one (ps_asg (pe_op op_gAdd (pe_op op_gMul pe_int (pv 3)) pe_int) (pg_sub (pv 1) (pv 2) set_list))) pss_nil)))))), ?rd⟩)
  case len => obtain ⟨way, r, ws, v, z, rfl, _⟩ := h; rfl
  case rd =>
    obtain ⟨way, r, ws, v, z, rfl, hr, hl, ⟨a, ha⟩, w6, q⟩ := h
    have fr : ∀ us : List Int, ∀ b o, b ≠ r → H b = some o → upd H r (.lst (us.map V.int)) b = some o := fun us b o hb e => by rw [upd_ne hb]; exact e
    rcases w6 with rfl | rfl | rfl
    · rw [ans6] at ha
      cases e : slotsW z with
      | none => rw [e] at ha; cases ha
      | some s =>
        rw [e] at ha
        dsimp only at ha
        obtain ⟨rfl, s8⟩ := slotsW_some e
        cases e2 : placeOf (ws.length - s) v with
        | none => rw [e2] at ha; cases ha
        | some i =>
          obtain ⟨rfl, hi⟩ := placeOf_some e2
          have eW : wordsOf ws 6 (.int (i : Int)) (.int (s : Int)) = layT ws i s s := by
            show (match slotsW (.int (s : Int)) with
              | none => ws
              | some s => match placeOf (ws.length - s) (.int (i : Int)) with
                | none => ws
                | some i => layT ws i s s) = _
            rw [e]
            dsimp only
            rw [e2]
          rw [eW] at q
          walk_at "w3"
          have en : ((i : Int) + (s : Int) + 1 - (i : Int)).toNat = s + 1 := by omega
          rw [en]
          refine ⟨⟨by omega, by omega, by omega, by omega⟩, forW_range (fun t σ H' => ∃ o4, σ = [some (.int 6), some (.ref r), some (.int (i : Int)), some (.int (s : Int)), o4] ∧ H' r = some (.lst ((fillT ws i t).map V.int)) ∧ ∀ b o, b ≠ r → H b = some o → H' b = some o) ⟨_, rfl, hr, fun _ _ _ e => e⟩ ?_ ?_⟩
          · rintro t σ H' ht ⟨o4, rfl, h', k⟩
            walk_at "w3"
            have ll := fillT_len (ws := ws) (i := i) (t := t)
            refine r_setL h' (by omega) (by rw [List.length_map]; omega) ?_
            have ej : ((i : Int) + (t : Int)).toNat = i + t := by omega
            rw [ej, ← List.map_set, ← fillT_succ]
            exact ⟨_, rfl, upd_same, fun b o hb e => by rw [upd_ne hb]; exact k b o hb e⟩
          · rintro σ H' ⟨o4, rfl, h', k⟩
            walk_at "w3"
            have ll := fillT_len (ws := ws) (i := i) (t := s + 1)
            refine r_setL h' (by omega) (by rw [List.length_map]; omega) ?_
            rw [Int.toNat_natCast, ← List.map_set, fill_lay]
            exact q _ upd_same fun b o hb e => by rw [upd_ne hb]; exact k b o hb e
    · have eA : ansOf ws 7 v z = (headW ws v).ans fun _ _ => match ageW z with
        | none => .err "count value"
        | some _ => .told .non := rfl
      rw [eA] at ha
      cases e : headW ws v with
      | noPlace => rw [e] at ha; cases ha
      | noCell => rw [e] at ha; cases ha
      | ok i k =>
        rw [e] at ha
        obtain ⟨rfl, hi, eh⟩ := head_ok e
        obtain ⟨hk, h34, -⟩ := headAt_some eh
        have ex : (ws.map V.int)[i]? = some (.int (ws.getD i 0)) := by rw [List.getElem?_map, getD_at (d := 0) hi]; rfl
        cases e2 : ageW z with
        | none =>
          have ha : (match ageW z with
            | none => Ans.err "count value"
            | some _ => .told .non) = .told a := ha
          rw [e2] at ha
          cases ha
        | some ag =>
          obtain ⟨n, rfl⟩ : ∃ n, z = .int n := by cases z <;> first | exact ⟨_, rfl⟩ | cases e2
          rw [ageW_int] at e2
          have en : n = (ag : Int) ∧ ag ≤ 2 := by
            split at e2
            · have := Option.some.inj e2
              omega
            · cases e2
          have eW : wordsOf ws 7 (.int (i : Int)) (.int n) = ws.set i (2 * ((4 * (k / 4) + ag : Nat) : Int)) := by
            show (match headW ws (.int (i : Int)) with
              | .ok i h => (match ageW (.int n) with
                | none => ws
                | some a => ws.set i (2 * ((4 * (h / 4) + a : Nat) : Int)))
              | _ => ws) = _
            rw [e]
            dsimp only
            rw [ageW_int, e2]
          rw [eW] at q
          walk_at "w3"
          refine r_ixL hr ex ?_
          walk_at "w3"
          refine r_setL hr (by omega) (by rw [List.length_map]; omega) ?_
          have ev : ws.getD i 0 / 8 * 8 + 2 * n = 2 * ((4 * (k / 4) + ag : Nat) : Int) := by omega
          rw [Int.toNat_natCast, ← List.map_set, ev]
          exact q _ upd_same (fr _)
    · have eA : ansOf ws 8 v z = (headW ws v).ans fun _ _ => match placeW z with
        | none => .err "place value"
        | some _ => .told .non := rfl
      rw [eA] at ha
      cases e : headW ws v with
      | noPlace => rw [e] at ha; cases ha
      | noCell => rw [e] at ha; cases ha
      | ok i k =>
        rw [e] at ha
        obtain ⟨rfl, hi, eh⟩ := head_ok e
        cases e2 : placeW z with
        | none =>
          have ha : (match placeW z with
            | none => Ans.err "place value"
            | some _ => .told .non) = .told a := ha
          rw [e2] at ha
          cases ha
        | some g =>
          obtain ⟨rfl, g0, g1⟩ := placeW_some e2
          have eW : wordsOf ws 8 (.int (i : Int)) (.int g) = ws.set i (2 * g + 1) := by
            show (match headW ws (.int (i : Int)) with
              | .ok i h => (match placeW (.int g) with
                | none => ws
                | some g => ws.set i (2 * g + 1))
              | _ => ws) = _
            rw [e]
            dsimp only
            rw [e2]
          rw [eW] at q
          walk_at "w3"
          refine r_setL hr (by omega) (by rw [List.length_map]; omega) ?_
          rw [Int.toNat_natCast, ← List.map_set]
          exact q _ upd_same (fr _)
end

local macro_rules | `(tactic| walk_at "w3") => `(tactic| try simp only [↓x_var0, ↓x_varS, ↓x_c, ↓x_op, ↓x_un, ↓x_cb, ↓x_nil, ↓x_cons, ↓x_test, ↓x_b, ↓x_ex, ↓x_and, ↓x_or, ↓x_not, ↓x_andV, ↓x_orV, ↓x_notV, ↓x_tif, ↓x_chain, ↓x_menu, ↓x_menuI, ↓x_lst, ↓x_tup, ↓x_dnew, ↓x_callW, ↓x_callN, ↓x_seq, ↓x_next, ↓x_ret, ↓x_retN, ↓x_drop, ↓x_ifS, ↓x_asg, ↓x_name, ↓x_raise, ↓x_fld, ↓x_setF, ↓x_meth, ↓x_make, ↓x_sub, ↓r_min, ↓r_max, ↓x_yes, ↓x_for, ↓x_cut, ↓x_lc, ↓x_rng1, ↓x_rng2, ↓x_lst1, ↓x_itup, ↓x_rng3, ↓x_three, ↓x_lstg, ↓x_tupg, ↓x_adrS, ↓x_one, ↓x_two, ↓x_adr, ↓x_sl, ↓x_np, ↓x_pt, ↓x_int, ↓x_bm, ↓x_bm0, ↓x_consg, ↓x_nilg, ↓x_dget2, ↓x_dget1, ↓x_dget, ↓x_din, ↓x_dni, ↓x_dput, ↓x_dpop2, ↓r_isB, ↓r_notB, ↓x_enum, wipe, List.map_cons, List.map_nil, ↓x_isT, ↓r_isiII, ↓r_isiBB, ↓r_isiIB, ↓r_isiSS, ↓r_neNS, ↓r_neSN, ↓r_neNN, ↓r_eqNS, ↓r_eqSN, ↓r_eqNN, ↓r_eqIS, ↓r_neIS, ↓r_neSI, ↓r_neBS, ↓r_eqBB, ↓r_neBB, ↓x_start, ↓x_K, ↓x_start0, ↓r_i0, ↓r_i, ↓r_u, ↓r_addI, ↓r_addS, ↓r_mulI, ↓r_mulS, ↓r_eqI, ↓r_neI, ↓r_eqS, ↓r_neS, ↓r_absI, ↓r_intI, ↓r_intB, List.length_cons, List.length_nil, List.replicate, List.set_cons_zero, List.set_cons_succ, decide_eq_true_eq, Bool.not_eq_true', decide_eq_false_iff_not, if_true, if_false, Bool.false_eq_true, Bool.true_eq_false, ite_true, ite_false, Bool.not_true, Bool.not_false, c_div, n_ten, c_pow, not_true_eq_false, not_false_eq_true, decide_true, decide_false, true_and, and_true, and_self, true_or, or_true, Int.reduceLT, Int.reduceLE, Int.reduceMul, Int.reduceAdd, Int.reduceSub, Int.reducePow, Int.reduceNeg, Int.reduceDiv, Int.reduceMod, Nat.reducePow, Int.reduceToNat, Int.reduceEq, Int.reduceNe, Nat.reduceLT, Nat.reduceLeDiff, Nat.reduceAdd, ↓x_whole, ↓x_kind, Int.natCast_one])
theorem getD_set {ws : List Int} {i j : Nat} {n : Int} (hi : i < ws.length) : (ws.set i n).getD j 0 = if i = j then n else ws.getD j 0 := by
  rw [List.getD_eq_getElem?_getD, List.getElem?_set, List.getD_eq_getElem?_getD]
  split
  · rename_i e
    subst e
    first | rfl | (rw [if_pos hi]; rfl)
  · rfl
theorem Fit.set {ws : List Int} (f : Fit ws) {i : Nat} {n : Int} (hi : i < ws.length) (hn : ∀ h, headAt n = some h → i + h / 4 < ws.length) : Fit (ws.set i n) := fun j h hj e => by
  rw [List.length_set] at hj ⊢
  rw [getD_set hi] at e
  split at e
  · rename_i c
    subst c
    exact hn h e
  · exact f j h hj e
theorem head_none1 : headAt (-1) = none := rfl
theorem Fit.lay {ws : List Int} (f : Fit ws) {i s : Nat} (hi : i + s < ws.length) : ∀ t, t ≤ s → Fit (layT ws i s t)
  | 0, _ => f.set (by omega) fun h e => by
    have := (headAt_some e).1
    omega
  | t + 1, ht => by
    rw [layT_succ]
    have ll := layT_len (ws := ws) (i := i) (s := s) (t := t)
    refine (Fit.lay f hi t (by omega)).set (by omega) fun h e => ?_
    rw [head_none1] at e
    cases e
theorem fit_words {ws : List Int} {way : Int} {v z : V} (vw : Vw ws) (f : Fit ws) : Vw (wordsOf ws way v z) ∧ Fit (wordsOf ws way v z) ∧ (wordsOf ws way v z).length = ws.length := by
  have same : Vw ws ∧ Fit ws ∧ ws.length = ws.length := ⟨vw, f, rfl⟩
  unfold wordsOf
  split
  · cases e : slotsW z with
    | none => exact same
    | some s =>
      obtain ⟨-, s8⟩ := slotsW_some e
      dsimp only
      cases e2 : placeOf (ws.length - s) v with
      | none => exact same
      | some i =>
        obtain ⟨-, hi⟩ := placeOf_some e2
        exact ⟨layT_vw vw s8, f.lay (by omega) s (Nat.le_refl _), layT_len⟩
  · split
    · cases e : headW ws v with
      | noPlace => exact same
      | noCell => exact same
      | ok i k =>
        obtain ⟨-, hi, eh⟩ := head_ok e
        have fit := f i k hi eh
        obtain ⟨-, h34, -⟩ := headAt_some eh
        dsimp only
        cases e2 : ageW z with
        | none => exact same
        | some a =>
          have a2 : a ≤ 2 := by
            cases z with
            | int n =>
              rw [ageW_int] at e2
              split at e2
              · have := Option.some.inj e2
                omega
              · cases e2
            | _ => cases e2
          refine ⟨vw.set (by rw [word_num (by omega)]; rfl), f.set hi fun h e => ?_, List.length_set ..⟩
          have := (headAt_some e).1
          omega
    · split
      · cases e : headW ws v with
        | noPlace => exact same
        | noCell => exact same
        | ok i k =>
          obtain ⟨-, hi, eh⟩ := head_ok e
          dsimp only
          cases e2 : placeW z with
          | none => exact same
          | some g =>
            obtain ⟨-, g0, g1⟩ := placeW_some e2
            refine ⟨vw.set (by rw [word_place g0 g1]; rfl), f.set hi fun h e => ?_, List.length_set ..⟩
            have := (headAt_some e).1
            omega
      · exact same
theorem words_few {ws : List Int} {way : Int} {v z : V} (h : way < 6) : wordsOf ws way v z = ws := by
  unfold wordsOf
  rw [if_neg (by omega), if_neg (by omega), if_neg (by omega)]
theorem ans_kids {ws : List Int} {way : Int} {v z : V} {ks : List Int} (e : ansOf ws way v z = .told (.kids ks)) : ks.length ≤ 8 := by
  unfold ansOf Hd.ans at e
  repeat' split at e
  all_goals try dsimp only at e
  all_goals (repeat' split at e)
  all_goals first
    | (cases e; done)
    | skip
  rename_i i h eh
  have e := AV.kids.inj (Ans.told.inj e)
  have l := kidsT_len (ws := ws) (i := i) (t := h / 4)
  obtain ⟨-, -, eh⟩ := head_ok eh
  obtain ⟨-, h34, -⟩ := headAt_some eh
  rw [← e]
  omega
theorem words_err {ws : List Int} {way : Int} {v z : V} {s : Str} (e : ansOf ws way v z = .err s) : wordsOf ws way v z = ws := by
  by_cases c6 : way = 6
  · subst c6
    rw [ans6] at e
    show (match slotsW z with
      | none => ws
      | some s => match placeOf (ws.length - s) v with
        | none => ws
        | some i => layT ws i s s) = ws
    cases e1 : slotsW z with
    | none => rfl
    | some s1 =>
      rw [e1] at e
      dsimp only at e ⊢
      cases e2 : placeOf (ws.length - s1) v with
      | none => rfl
      | some i =>
        rw [e2] at e
        cases e
  by_cases c7 : way = 7
  · subst c7
    have eA : ansOf ws 7 v z = (headW ws v).ans fun _ _ => match ageW z with
      | none => .err "count value"
      | some _ => .told .non := rfl
    rw [eA] at e
    show (match headW ws v with
      | .ok i h => (match ageW z with
        | none => ws
        | some a => ws.set i (2 * ((4 * (h / 4) + a : Nat) : Int)))
      | _ => ws) = ws
    cases e1 : headW ws v with
    | noPlace => rfl
    | noCell => rfl
    | ok i k =>
      rw [e1] at e
      dsimp only
      cases e2 : ageW z with
      | none => rfl
      | some a =>
        have e : (match ageW z with
          | none => Ans.err "count value"
          | some _ => .told .non) = .err s := e
        rw [e2] at e
        cases e
  by_cases c8 : way = 8
  · subst c8
    have eA : ansOf ws 8 v z = (headW ws v).ans fun _ _ => match placeW z with
      | none => .err "place value"
      | some _ => .told .non := rfl
    rw [eA] at e
    show (match headW ws v with
      | .ok i _ => (match placeW z with
        | none => ws
        | some g => ws.set i (2 * g + 1))
      | _ => ws) = ws
    cases e1 : headW ws v with
    | noPlace => rfl
    | noCell => rfl
    | ok i k =>
      rw [e1] at e
      dsimp only
      cases e2 : placeW z with
      | none => rfl
      | some a =>
        have e : (match placeW z with
          | none => Ans.err "place value"
          | some _ => .told .non) = .err s := e
        rw [e2] at e
        cases e
  · unfold wordsOf
    rw [if_neg c6, if_neg c7, if_neg c8]
theorem ans_non {ws : List Int} {way : Int} {v z : V} {a : AV} (w : way = 6 ∨ way = 7 ∨ way = 8) (e : ansOf ws way v z = .told a) : a = .non := by
  unfold ansOf Hd.ans at e
  rcases w with rfl | rfl | rfl
  all_goals
    repeat' split at e
    all_goals try dsimp only at e
    all_goals (repeat' split at e)
    all_goals first
      | (cases e; rfl)
      | (exfalso; omega)
      | cases e
/-- the law's row follows what was told -/
theorem deed_if {K : PySem.W.Frag} {H1 : Hp} {m dx l r p q : Addr} {ws : List Int} {way : Int} {v z : V} {N : Hp → Prop} {E : XK} (w : way = 6 ∨ way = 7 ∨ way = 8) (M : MemO K H1 m dx l (wordsOf ws way v z)) (hr : H1 r = some (.lst (ws.map V.int))) (rl : r ≠ l) (hz : ws.length ≤ 4000)
    (ap : AnsO H1 p (ansOf ws way v z)) (aq : AnsO H1 q (ansOf ws way v z)) (np : p ≠ r) (nq : q ≠ r)
    (h : ∀ H4, MemO K H4 m dx l (wordsOf ws way v z) → H4 r = some (.lst ((wordsOf ws way v z).map V.int)) → AnsO H4 p (ansOf ws way v z) → AnsO H4 q (ansOf ws way v z) → (∀ b o, b ≠ r → H1 b = some o → H4 b = some o) → N H4) :
    rIx K (.ref q) (.int 0) H1 fun x H1 => gEq K x (.str "told") H1 fun x H1 => ∃ k, x = .bl k ∧ if k = true then sp_ldone K [.int way, .ref r, v, z] H1 (fun _ H => N H) E else N H1 := by
  cases e : ansOf ws way v z with
  | err s =>
    rw [e] at ap aq h
    have aq : H1 q = some (.lst [.str s]) := aq
    refine r_ixL (i := 0) aq rfl ?_
    rw [r_eqS]
    have ns : ¬ s = "told" := by rcases ans_err e with rfl | rfl | rfl | rfl <;> decide +kernel
    refine ⟨_, rfl, ?_⟩
    rw [decide_eq_false ns, if_neg (by intro z; cases z)]
    exact h H1 M (by rw [words_err e]; exact hr) ap aq fun _ _ _ e => e
  | told a =>
    have ea := ans_non w e
    subst ea
    rw [e] at ap aq h
    obtain ⟨x, hp, rfl⟩ := ap
    obtain ⟨y, hq, rfl⟩ := aq
    refine r_ixL (i := 0) hq rfl ?_
    rw [r_eqS]
    refine ⟨_, rfl, ?_⟩
    rw [decide_eq_true rfl, if_pos rfl]
    refine ⟨way, r, ws, v, z, rfl, hr, hz, ⟨_, e⟩, w, fun H4 h4 k => h H4 ⟨k _ _ (ne_of M.ob hr (by intro z; cases z)) M.ob, k _ _ rl.symm M.ls, M.sz⟩ h4 ⟨_, k _ _ np hp, rfl⟩ ⟨_, k _ _ nq hq, rfl⟩ k⟩

local macro_rules | `(tactic| walk_at "w3") => `(tactic| try simp only [↓x_var0, ↓x_varS, ↓x_c, ↓x_op, ↓x_un, ↓x_cb, ↓x_nil, ↓x_cons, ↓x_test, ↓x_b, ↓x_ex, ↓x_and, ↓x_or, ↓x_not, ↓x_andV, ↓x_orV, ↓x_notV, ↓x_tif, ↓x_chain, ↓x_menu, ↓x_menuI, ↓x_lst, ↓x_tup, ↓x_dnew, ↓x_callW, ↓x_callN, ↓x_seq, ↓x_next, ↓x_ret, ↓x_retN, ↓x_drop, ↓x_ifS, ↓x_asg, ↓x_name, ↓x_raise, ↓x_fld, ↓x_setF, ↓x_meth, ↓x_make, ↓x_sub, ↓r_min, ↓r_max, ↓x_yes, ↓x_for, ↓x_cut, ↓x_lc, ↓x_rng1, ↓x_rng2, ↓x_lst1, ↓x_itup, ↓x_rng3, ↓x_three, ↓x_lstg, ↓x_tupg, ↓x_adrS, ↓x_one, ↓x_two, ↓x_adr, ↓x_sl, ↓x_np, ↓x_pt, ↓x_int, ↓x_bm, ↓x_bm0, ↓x_consg, ↓x_nilg, ↓x_dget2, ↓x_dget1, ↓x_dget, ↓x_din, ↓x_dni, ↓x_dput, ↓x_dpop2, ↓r_isB, ↓r_notB, ↓x_enum, wipe, List.map_cons, List.map_nil, ↓x_isT, ↓r_isiII, ↓r_isiBB, ↓r_isiIB, ↓r_isiSS, ↓r_neNS, ↓r_neSN, ↓r_neNN, ↓r_eqNS, ↓r_eqSN, ↓r_eqNN, ↓r_eqIS, ↓r_neIS, ↓r_neSI, ↓r_neBS, ↓r_eqBB, ↓r_neBB, ↓x_start, ↓x_K, ↓x_start0, ↓r_i0, ↓r_i, ↓r_u, ↓r_addI, ↓r_addS, ↓r_mulI, ↓r_mulS, ↓r_eqI, ↓r_neI, ↓r_eqS, ↓r_neS, ↓r_absI, ↓r_intI, ↓r_intB, List.length_cons, List.length_nil, List.replicate, List.set_cons_zero, List.set_cons_succ, decide_eq_true_eq, Bool.not_eq_true', decide_eq_false_iff_not, if_true, if_false, Bool.false_eq_true, Bool.true_eq_false, ite_true, ite_false, Bool.not_true, Bool.not_false, c_div, n_ten, c_pow, not_true_eq_false, not_false_eq_true, decide_true, decide_false, true_and, and_true, and_self, true_or, or_true, Int.reduceLT, Int.reduceLE, Int.reduceMul, Int.reduceAdd, Int.reduceSub, Int.reducePow, Int.reduceNeg, Int.reduceDiv, Int.reduceMod, Nat.reducePow, Int.reduceToNat, Int.reduceEq, Int.reduceNe, Nat.reduceLT, Nat.reduceLeDiff, Nat.reduceAdd, ↓x_whole, ↓x_kind, Int.natCast_one])
def sp_looked (K : PySem.W.Frag) : Sp := fun vs H Q _ => ∃ m dx l ws r v, vs = [.ref m, .ref r, v] ∧ MemO K H m dx l ws ∧ Vw ws ∧ Fit ws ∧ H r = some (.lst (ws.map V.int)) ∧ Thing H v ∧ ∀ H', Same H H' → Q (.bl true) H'
/-- a step: memory m (words ws) with the law's row r, the cells c and e, the last place -/
def sp_stepped (K : PySem.W.Frag) : Sp := fun vs H Q _ => ∃ m dx l ws r c e, ∃ at_ : Nat, vs = [.ref m, .ref r, .int c, .int e, .int (at_ : Int)] ∧ MemO K H m dx l ws ∧ Vw ws ∧ Fit ws ∧ H r = some (.lst (ws.map V.int)) ∧ r ≠ l ∧ 12 ≤ ws.length ∧ at_ + 8 < ws.length ∧
  ∀ p v ws' H', Vw ws' → Fit ws' → ws'.length = ws.length → MemO K H' m dx l ws' → H' r = some (.lst (ws'.map V.int)) → H' p = some (.lst [v, .bl true]) → Thing H' v → (∀ b o, b ≠ l → b ≠ r → H b = some o → H' b = some o) → Q (.ref p) H'
theorem same_back {K : PySem.W.Frag} {H H' : Hp} {m dx l : Addr} {ws : List Int} (M : MemO K H m dx l ws) (M' : MemO K H' m dx l ws) (k : ∀ b o, b ≠ l → H b = some o → H' b = some o) : Same H H' := fun b o e => by
  by_cases c : b = l
  · subst c
    rw [M.ls] at e
    rw [M'.ls]
    exact e
  · exact k b o c e
theorem str_sh {z : Str} (h : PyData.strOk z = true) : ShK 0 (.str z) := ⟨by simp only [PyData.canLay0]; exact h, by simp [PyData.depth]⟩
theorem str_shaped {z : Str} (h : PyData.strOk z = true) : SeqAt.shaped (.list [.str z]) = true := (ShK.lst (k := 0) fun y hy => by rw [List.mem_singleton.mp hy]; exact str_sh h).ok (by decide)
theorem told_shaped {ks : List Int} : SeqAt.shaped (.list [.str "told", .list ((ks.map V.int).map toD)]) = true := by
  refine (ShK.lst (k := 1) fun y hy => ?_).ok (by decide)
  rcases List.mem_cons.mp hy with rfl | hy
  · exact (str_sh (by decide +kernel)).up (by decide)
  · rw [List.mem_singleton.mp hy]
    exact ShK.lst toDs_sh
theorem kids_bound {ws : List Int} {way : Int} {v z : V} : match ansOf ws way v z with
    | .told (.kids ks) => ks.length ≤ 8
    | _ => True := by
  cases e : ansOf ws way v z with
  | err s => trivial
  | told a =>
    cases a with
    | kids ks => exact ans_kids e
    | _ => trivial
section
variable {P : Program} {w : World} {K : PySem.W.Frag} {mg : Str → Option Value} {base : Heap}
theorem f__law_looked (T : Tx K mg) : Fn P w K mg base 9 "_law_looked" ["_law_memory", "_law_row", "_law_at"] (sp_looked K) := by
  have c__law_same := f__law_same (P := P) (w := w) (base := base) T
  have c__law_due := f__law_due (P := P) (w := w) (base := base) T
  have c__law_told := f__law_told (P := P) (w := w) (base := base) T
  have c_Memory_read := f_Memory_read (P := P) (w := w) (base := base) T
  have c__law_whole := f__law_whole (P := P) (w := w) (base := base) T
  refine T.mkFn 32 37 (d := d__law_looked) (N := ["_law_memory", "_law_row", "_law_at", "_law_way", "_law_first", "_law_kept", "_law_part", "_law_slot"]) (k := 8) rfl rfl rfl rfl rfl sc__law_looked (fun _ _ _ _ _ _ us hl => match us, hl with | [_, _, _], _ => rfl) (fun vs H Q E h => ?len) (fun cdv A outer s H vs Q E hr h => ⟨_,
      (pss_cut (ps_for (passes_of rfl) rfl (pi_range1 rfl (T.free 49) (pa_cons pe_int pa_nil)) (pg_name (i := 3) sc__law_looked.nd rfl (Or.inl rfl)) (pss_one (ps_if (pt_not (pt_val (pe_fn (takes_of rfl rfl rfl rfl) c__law_same (hr.mono (by decide)) (by rfl) (pa_cons (pe_fn (takes_of rfl rfl rfl rfl) c__law_told (hr.mono (by decide)) (by rfl) (pa_cons (pv 3) (pa_cons (pv 0) (pa_cons (pv 2) (pa_cons pe_int pa_nil))))) (pa_cons (pe_fn (takes_of rfl rfl rfl rfl) c__law_due (hr.mono (by decide)) (by rfl) (pa_cons (pv 3) (pa_cons (pv 1) (pa_cons (pv 2) (pa_cons pe_int pa_nil))))) pa_nil))))) (pss_one (ps_ret pe_bl)) pss_nil)))
        (pss_cut (ps_set (i := 4) sc__law_looked.nd rfl (Or.inl rfl) (pe_fn (takes_of rfl rfl rfl rfl) c__law_told (hr.mono (by decide)) (by rfl) (pa_cons pe_int (pa_cons (pv 0) (pa_cons (pv 2) (pa_cons pe_int pa_nil))))))
        (pss_cut (ps_setLc (i := 5) (own := [("_law_part", 6)]) (g := gName 6) rfl sc__law_looked.nd rfl rfl (sw_true rfl rfl rfl (by decide +kernel)) (pi_listK (K := K) rfl (pv 4)) (blkOk_by (own := [("_law_part", 6)]) (N := ["_law_memory", "_law_row", "_law_at", "_law_way", "_law_first", "_law_kept", "_law_part", "_law_slot"]) (sc := defScope s__law_looked) (by decide +kernel)) (fun _ _ _ _ _ => (pg_name (i := 6) sc__law_looked.nd rfl (Or.inl rfl))) (fun _ _ _ _ _ => pts_nil) (fun _ _ _ _ _ => (pe_ifExp (pt_val (pe_callB call_gIsi (by rfl) (T.free 46) (by decide +kernel) (pa_cons (pv 6) (pa_cons (pe_ty (T := "list") (T.free 54) (by decide +kernel) (by rfl)) pa_nil)))) (pe_callTy (call_listK (K := K) rfl) (by rfl) (T.free 54) (by decide +kernel) (pa_cons (pv 6) pa_nil)) (pv 6))))
        (pss_cut (ps_if (pt_cmpR (op_eqK (K := K) rfl hr.units) (pe_ix (ix_seqK (K := K) rfl) (pv 4) pe_int (fun _ _ => rfl)) pe_str (nomark _)) (pss_one (ps_expr (pe_bm PySem.F.plainAttrs_list PySem.F.slot_list_append PySem.F.type_list_append mt_append (pe_ix (ix_seqK (K := K) rfl) (pe_fn (takes_of rfl rfl rfl rfl) c__law_told (hr.mono (by decide)) (by rfl) (pa_cons pe_int (pa_cons (pv 0) (pa_cons (pv 2) (pa_cons pe_int pa_nil))))) pe_int (fun _ _ => rfl)) (pa_cons pe_non pa_nil)))) pss_nil)
        (pss_cut (ps_if (pt_cmpR (op_neK (K := K) rfl hr.units) (pv 4) (pv 5) (nomark _)) (pss_one (ps_ret pe_bl)) pss_nil)
        (pss_cut (ps_for (passes_of rfl) rfl (pi_listK (K := K) rfl (pe_lst (pa_cons pe_int (pa_cons pe_int (pa_cons pe_int (pa_cons pe_int (pa_cons (pe_un un_neg pe_int) (pa_cons pe_non pa_nil)))))))) (pg_name (i := 7) sc__law_looked.nd rfl (Or.inl rfl)) (pss_one (ps_if (pt_not (pt_val (pe_fn (takes_of rfl rfl rfl rfl) c__law_same (hr.mono (by decide)) (by rfl) (pa_cons (pe_fn (takes_of rfl rfl rfl rfl) c__law_told (hr.mono (by decide)) (by rfl) (pa_cons pe_int (pa_cons (pv 0) (pa_cons (pv 2) (pa_cons (pv 7) pa_nil))))) (pa_cons (pe_fn (takes_of rfl rfl rfl rfl) c__law_due (hr.mono (by decide)) (by rfl) (pa_cons pe_int (pa_cons (pv 1) (pa_cons (pv 2) (pa_cons (pv 7) pa_nil))))) pa_nil))))) (pss_one (ps_ret pe_bl)) pss_nil)))
        (pss_one (ps_ret (pe_or (pe_not (pe_fnH c__law_whole (roomN_of (hr.mono (by decide))) (by rfl) (pa_cons (pv 2) pa_nil))) (pe_or (pe_not (pe_chain op_le op_lt pe_int (pv 2) (pe_callB (call_lenK (K := K) rfl) (by rfl) (T.free 47) PySem.boot_len (pa_cons (pv 1) pa_nil)))) (pe_one (pe_cmpR (op_eqK (K := K) rfl hr.units) (pe_mt (K := K) rfl (takes_of rfl rfl rfl rfl) (pv 0) c_Memory_read (hr.mono (by decide)) (pa_cons (pv 2) pa_nil)) (pe_ix (ix_seqK (K := K) rfl) (pv 1) (pv 2) (fun _ _ => rfl)) (nomark _))))))))))))), ?rd⟩)
  case len => obtain ⟨m, dx, l, ws, r, v, rfl, _⟩ := h; rfl
  case rd =>
    obtain ⟨m, dx, l, ws, r, v, rfl, M, vw, ft, hr', th, q⟩ := h
    have hz := M.sz
    walk_at "w3"
    have look : ∀ (way : Int) (z : V) (H1 : Hp) (E1 : XK) (Q1 : VK), 0 ≤ way → way < 6 → Same H H1 → Thing H1 z → (∀ p H2, H1 p = none → Same H1 H2 → AnsO H2 p (ansOf ws way v z) → (∀ q, H2 p = some (.lst [.str "told", .ref q]) → H1 q = none) → Q1 (.ref p) H2) → sp_told K [.int way, .ref m, v, z] H1 Q1 E1 := fun way z H1 E1 Q1 w0 w6 s tz q1 => by
      refine ⟨way, m, dx, l, ws, v, z, rfl, M.same s, vw, ft, w0, by omega, thing_same s th, tz, fun p H2 np ap nq M2 k t => ?_⟩
      rw [words_few w6] at M2
      exact q1 p H2 np (same_back (M.same s) M2 k) ap nq
    have both : ∀ (way : Int) (z : V) (H1 : Hp) (E1 : XK) (Q1 : VK), 0 ≤ way → way < 6 → Same H H1 → Thing H1 z → (∀ H2, Same H1 H2 → Q1 (.bl true) H2) →
        sp_told K [.int way, .ref m, v, z] H1 (fun x H2 => sp_due K [.int way, .ref r, v, z] H2 (fun y H3 => sp_lsame K [x, y] H3 Q1 E1) E1) E1 := fun way z H1 E1 Q1 w0 w6 s tz q1 => by
      refine look way z H1 E1 _ w0 w6 s tz fun p H2 np s2 ap _ => ?_
      refine ⟨way, r, ws, v, z, rfl, (s.trans s2) _ _ hr', hz, vw, ft, w0, by omega, thing_same (s.trans s2) th, thing_same s2 tz, fun p2 H3 np2 s3 ap2 => ?_⟩
      exact ⟨p, p2, _, rfl, ap.same s3, ap2, kids_bound, fun H4 s4 => q1 H4 (s2.trans (s3.trans s4))⟩
    refine ⟨fun σ H1 => ∃ o3, σ = [some (.ref m), some (.ref r), some v, o3, none, none, none, none] ∧ Same H H1, ?_, ?_⟩
    · refine forW_range (fun t σ H1 => ∃ o3, σ = [some (.ref m), some (.ref r), some v, o3, none, none, none, none] ∧ Same H H1) ⟨_, rfl, Same.refl _⟩ ?_ ?_
      · rintro t σ H1 ht ⟨o3, rfl, s⟩
        walk_at "w3"
        refine both _ _ H1 _ _ (by omega) (by omega) s (.inl ⟨_, rfl⟩) fun H2 s2 => ?_
        walk_at "w3"
        exact ⟨_, rfl, s.trans s2⟩
      · rintro σ H1 ⟨o3, rfl, s⟩
        exact ⟨_, rfl, s⟩
    rintro σ H1 ⟨o3, rfl, s1⟩
    walk_at "w3"
    refine ⟨fun σ H2 => ∃ p, σ = [some (.ref m), some (.ref r), some v, o3, some (.ref p), none, none, none] ∧ Same H H2 ∧ AnsO H2 p (ansOf ws 3 v (.int 0)), ?_, ?_⟩
    · refine look 3 _ H1 _ _ (by omega) (by omega) s1 (.inl ⟨_, rfl⟩) fun p H2 np s2 ap _ => ?_
      exact ⟨p, rfl, s1.trans s2, ap⟩
    rintro σ H2 ⟨p, rfl, s2, ap⟩
    have a3 : (∃ z, ansOf ws 3 v (.int 0) = .err z) ∨ ∃ ks, ansOf ws 3 v (.int 0) = .told (.kids ks) := by
      have e : ansOf ws 3 v (.int 0) = (headW ws v).ans fun i h => .told (.kids (kidsT ws i (h / 4))) := rfl
      rw [e]
      cases headW ws v with
      | noPlace => exact .inl ⟨_, rfl⟩
      | noCell => exact .inl ⟨_, rfl⟩
      | ok i h => exact .inr ⟨_, rfl⟩
    walk_at "w3"
    refine ⟨fun σ H3 => ∃ q1, σ = [some (.ref m), some (.ref r), some v, o3, some (.ref p), some (.ref q1), none, none] ∧ Same H H3 ∧ AnsO H3 p (ansOf ws 3 v (.int 0)) ∧ AnsO H3 q1 (ansOf ws 3 v (.int 0)), ?_, ?_⟩
    · rcases a3 with ⟨z, e3⟩ | ⟨ks, e3⟩
      · rw [e3] at ap ⊢
        have hp : H2 p = some (.lst [.str z]) := ap
        refine ⟨⟨_, .of hp⟩, fun D hD => lc_mapL (ys := [.str z]) (xs := [.str z]) (fun _ => rfl) (fun acc => .of ((same_new hD) _ _ hp)) (by rw [sizeLine_eq]; show 1 ≤ 16777216; omega) rfl (fun i x y hx hy acc Q2 q2 => ?_) ?_⟩
        · have e1 : x = .str z ∧ y = .str z := by
            match i, hx, hy with
            | 0, h1, h2 => exact ⟨(Option.some.inj h1).symm, (Option.some.inj h2).symm⟩
          obtain ⟨rfl, rfl⟩ := e1
          walk_at "w3"
          refine r_isi (t := "str") rfl ?_
          rw [show isB "str" "list" = false by decide]
          walk_at "w3"
          exact q2
        · have sD := same_new (o := .lst [.str z]) hD
          exact ⟨D, rfl, s2.trans sD, sD _ _ hp, upd_same⟩
      · rw [e3] at ap ⊢
        obtain ⟨x, hp, g1, rfl, hg⟩ := ap
        refine ⟨⟨_, .of hp⟩, fun D hD => lc_list (xs := [.str "told", .ref g1]) (fun i H' => Same H2 H' ∧ ((i = 0 ∧ H' D = some (.lst [])) ∨ (i = 1 ∧ H' D = some (.lst [.str "told"])) ∨ ∃ c, i = 2 ∧ H' D = some (.lst [.str "told", .ref c]) ∧ H' c = some (.lst (ks.map V.int)))) ⟨same_new hD, .inl ⟨rfl, upd_same⟩⟩ (fun i H' _ e => .of (e.1 _ _ hp)) (fun i x H' hx e => ?_) fun H' e => ?_⟩
        · obtain ⟨s, e⟩ := e
          have sd : ∀ ys, Same H2 (upd H' D (.lst ys)) := fun ys c o g => by rw [upd_ne (ne_of_none g hD)]; exact s _ _ g
          rcases e with ⟨rfl, e⟩ | ⟨rfl, e⟩ | ⟨c, rfl, e, e'⟩
          · cases Option.some.inj hx
            walk_at "w3"
            refine r_isi (t := "str") rfl ?_
            rw [show isB "str" "list" = false by decide]
            walk_at "w3"
            refine ⟨_, e, by rw [sizeLine_eq]; decide, sd _, ?_⟩
            first | exact .inr (.inl ⟨rfl, upd_same⟩) | exact .inr (.inl upd_same) | exact .inl upd_same | (left; exact upd_same)
          · cases Option.some.inj hx
            walk_at "w3"
            refine r_isiL (s _ _ hg) ?_
            walk_at "w3"
            refine ⟨g1, _, rfl, .inl (.of (s _ _ hg)), fun c hc => ?_⟩
            have sc := same_new (o := .lst (ks.map V.int)) hc
            have cD : c ≠ D := (ne_of_none e hc).symm
            refine ⟨_, sc _ _ e, by rw [sizeLine_eq]; decide, fun b o g => by rw [upd_ne (ne_of_none g hD)]; exact sc _ _ (s _ _ g), ?_⟩
            have u2 : upd (upd H' c (.lst (ks.map V.int))) D (.lst ([.str "told"] ++ [.ref c])) c = some (.lst (ks.map V.int)) := by rw [upd_ne cD]; exact upd_same
            first | exact .inr (.inr ⟨c, rfl, upd_same, u2⟩) | exact .inr (.inr ⟨c, upd_same, u2⟩) | exact ⟨c, upd_same, u2⟩ | exact .inr ⟨c, upd_same, u2⟩
          · cases hx
        · obtain ⟨s, e⟩ := e
          rcases e with ⟨h, -⟩ | ⟨h, -⟩ | ⟨c, -, e, e'⟩
          · cases h
          · cases h
          · exact ⟨D, rfl, s2.trans s, ⟨_, s _ _ hp, g1, rfl, s _ _ hg⟩, ⟨_, e, c, rfl, e'⟩⟩
    rintro σ H3 ⟨q1, rfl, s3, ap3, aq3⟩
    walk_at "w3"
    refine ⟨fun σ H4 => σ = [some (.ref m), some (.ref r), some v, o3, some (.ref p), some (.ref q1), none, none] ∧ Same H3 H4, ?_, ?_⟩
    · rcases a3 with ⟨z, e3⟩ | ⟨ks, e3⟩
      · rw [e3] at ap3
        have hp : H3 p = some (.lst [.str z]) := ap3
        refine r_ixL (i := 0) hp rfl ?_
        rcases ans_err e3 with rfl | rfl | rfl | rfl
        all_goals
          walk_at "w3"
          rw [if_neg (by decide +kernel)]
          exact Same.refl _
      · rw [e3] at ap3
        obtain ⟨x, hp, g1, rfl, hg⟩ := ap3
        refine r_ixL (i := 0) hp rfl ?_
        walk_at "w3"
        refine look 3 _ H3 _ _ (by omega) (by omega) s3 (.inl ⟨_, rfl⟩) fun p4 H4 np4 s4 ap4 nq4 => ?_
        rw [e3] at ap4
        obtain ⟨x4, hp4, g4, rfl, hg4⟩ := ap4
        have ng4 := nq4 g4 hp4
        refine r_ixL (i := 1) hp4 rfl ?_
        have k8 := ans_kids e3
        refine r_app hg4 (by rw [List.length_map, sizeLine_eq]; omega) ?_
        exact fun c o g => by rw [upd_ne (ne_of_none g ng4)]; exact s4 _ _ g
    rintro σ H4 ⟨rfl, s4⟩
    walk_at "w3"
    have ap4 := ap3.same s4
    have aq4 := aq3.same s4
    refine ⟨fun σ H5 => σ = [some (.ref m), some (.ref r), some v, o3, some (.ref p), some (.ref q1), none, none] ∧ H5 = H4, ?_, ?_⟩
    · rcases a3 with ⟨z, e3⟩ | ⟨ks, e3⟩
      · rw [e3] at ap4 aq4
        have h1 : Dp K H4 (.ref p) (.list [.str z]) := .lst (.of ap4) (.cons (.str z) .nil)
        have h2 : Dp K H4 (.ref q1) (.list [.str z]) := .lst (.of aq4) (.cons (.str z) .nil)
        have sh : SeqAt.shaped (.list [.str z]) = true := by
          rcases ans_err e3 with rfl | rfl | rfl | rfl <;> exact str_shaped (by decide +kernel)
        refine r_neSame h1 h2 sh ?_
        walk_at "w3"
      · rw [e3] at ap4 aq4
        obtain ⟨x, hp, g1, rfl, hg⟩ := ap4
        obtain ⟨y, hq, g2, rfl, hg2⟩ := aq4
        have fI : ∀ x ∈ ks.map V.int, flatI x = true := fun x h => by
          obtain ⟨i, -, e⟩ := List.mem_map.mp h
          subst e
          rfl
        have h1 : Dp K H4 (.ref p) (.list [.str "told", .list ((ks.map V.int).map toD)]) := .lst (.of hp) (.cons (.str _) (.cons (dp_flat hg fI) .nil))
        have h2 : Dp K H4 (.ref q1) (.list [.str "told", .list ((ks.map V.int).map toD)]) := .lst (.of hq) (.cons (.str _) (.cons (dp_flat hg2 fI) .nil))
        refine r_neSame h1 h2 told_shaped ?_
        walk_at "w3"
    rintro σ H5 ⟨rfl, rfl⟩
    have s05 : Same H H5 := s3.trans s4
    walk_at "w3"
    refine ⟨fun σ H6 => ∃ o7, σ = [some (.ref m), some (.ref r), some v, o3, some (.ref p), some (.ref q1), none, o7] ∧ Same H H6, ?_, ?_⟩
    · refine ⟨by rw [sizeLine_eq]; omega, fun p5 np5 => ?_⟩
      have s5 := same_new (o := .lst [.int 0, .int 3, .int 7, .int 8, .int (-1), .non]) np5
      refine ⟨⟨_, .of upd_same⟩, forW_list (xs := [.int 0, .int 3, .int 7, .int 8, .int (-1), .non]) (fun t σ H1 => ∃ o7, σ = [some (.ref m), some (.ref r), some v, o3, some (.ref p), some (.ref q1), none, o7] ∧ Same (upd H5 p5 (.lst [.int 0, .int 3, .int 7, .int 8, .int (-1), .non])) H1) ⟨_, rfl, Same.refl _⟩ ?_ ?_ ?_⟩
      · rintro t σ H1 _ ⟨o7, rfl, s⟩
        exact .of (s _ _ upd_same)
      · rintro t x σ H1 hx ⟨o7, rfl, s⟩
        have tx : Thing H1 x := by
          have mx := List.mem_of_getElem? hx
          simp only [List.mem_cons, List.not_mem_nil, or_false] at mx
          rcases mx with rfl | rfl | rfl | rfl | rfl | rfl
          · exact .inl ⟨_, rfl⟩
          · exact .inl ⟨_, rfl⟩
          · exact .inl ⟨_, rfl⟩
          · exact .inl ⟨_, rfl⟩
          · exact .inl ⟨_, rfl⟩
          · exact .inr odd_non
        walk_at "w3"
        refine both 5 x H1 _ _ (by omega) (by omega) (s05.trans (s5.trans s)) tx fun H2 s2 => ?_
        walk_at "w3"
        exact ⟨_, rfl, s.trans s2⟩
      · rintro σ H1 ⟨o7, rfl, s⟩
        exact ⟨_, rfl, s05.trans (s5.trans s)⟩
    rintro σ H6 ⟨o7, rfl, s6⟩
    have q6 := q H6 s6
    walk_at "w3"
    rcases th with ⟨n, rfl⟩ | o
    · walk_at "w3"
      split
      · rename_i c0
        have hr6 := s6 _ _ hr'
        refine r_lenL hr6 ?_
        walk_at "w3"
        rw [List.length_map]
        by_cases c1 : n < (ws.length : Int)
        · obtain ⟨i, rfl⟩ := Int.eq_ofNat_of_zero_le c0
          have hi : i < ws.length := by omega
          have ex : (ws.map V.int)[i]? = some (.int (ws.getD i 0)) := by rw [List.getElem?_map, getD_at (d := 0) hi]; rfl
          rw [if_neg (fun z => z c1)]
          have M6 := M.same s6
          refine ⟨recv M6.ob, m, dx, l, ws, _, rfl, M6, .inl ⟨_, rfl⟩, ?_⟩
          rw [placeOf_int, if_pos ⟨by omega, by omega⟩, Int.toNat_natCast]
          dsimp only
          refine r_ixL hr6 ex ?_
          walk_at "w3"
          first | exact q6 | (rw [decide_eq_true rfl]; exact q6)
        · rw [if_pos c1]
          exact q6
      · exact q6
    · rw [odd_whole (odd_same s6 o)]
      walk_at "w3"
      exact q6
theorem f__law_stepped (T : Tx K mg) : Fn P w K mg base 9 "_law_stepped" ["_law_memory", "_law_row", "_law_cell", "_law_more", "_law_last"] (sp_stepped K) := by
  have c__law_told := f__law_told (P := P) (w := w) (base := base) T
  have c__law_due := f__law_due (P := P) (w := w) (base := base) T
  have c__law_done := f__law_done (P := P) (w := w) (base := base) T
  have c__law_same := f__law_same (P := P) (w := w) (base := base) T
  have c_Memory_write := f_Memory_write (P := P) (w := w) (base := base) T
  refine T.mkFn 33 38 (d := d__law_stepped) (N := ["_law_memory", "_law_row", "_law_cell", "_law_more", "_law_last", "_law_size", "_law_odd", "_law_at", "_law_sort", "_law_thing", "_law_found", "_law_due_here", "_law_word", "_law_place", "_law_way"]) (k := 8) rfl rfl rfl rfl rfl sc__law_stepped (fun _ _ _ _ _ _ us hl => match us, hl with | [_, _, _, _, _], _ => rfl) (fun vs H Q E h => ?len) (fun cdv A outer s H vs Q E hr h => ⟨_,
      (pss_cons (ps_set (i := 5) sc__law_stepped.nd rfl (Or.inl rfl) (pe_callB (call_lenK (K := K) rfl) (by rfl) (T.free 47) PySem.boot_len (pa_cons (pv 1) pa_nil)))
        (pss_cons (ps_set (i := 6) sc__law_stepped.nd rfl (Or.inl rfl) (pe_menu (pa_cons (pv 5) (pa_cons (pe_op op_gAdd (pv 5) pe_int) (pa_cons (pe_un un_neg pe_int) (pa_cons pe_bl (pa_cons pe_non (pa_cons pe_str pa_nil)))))) (pe_op op_mod (pe_op op_fdiv (pv 2) pe_int) pe_int) (fun _ _ => rfl)))
        (pss_cons (ps_set (i := 7) sc__law_stepped.nd rfl (Or.inl rfl) (pe_menu (pa_cons (pv 4) (pa_cons (pe_op op_mod (pe_op op_fdiv (pv 2) pe_int) (pv 5)) (pa_cons (pv 4) (pa_cons (pv 4) (pa_cons (pe_op op_sub (pe_op op_sub (pv 5) pe_int) (pe_op op_mod (pe_op op_fdiv (pv 2) pe_int) pe_int)) (pa_cons (pv 6) pa_nil)))))) (pe_op op_mod (pv 2) pe_int) (fun _ _ => rfl)))
        (pss_cons (ps_set (i := 8) sc__law_stepped.nd rfl (Or.inl rfl) (pe_op op_mod (pe_op op_fdiv (pv 2) pe_int) pe_int))
        (pss_cons (ps_if (pt_cmpR op_lt (pv 8) pe_int (nomark _)) (pss_cons (ps_set (i := 9) sc__law_stepped.nd rfl (Or.inl rfl) (pe_menu (pa_cons pe_int (pa_cons pe_int (pa_cons pe_int (pa_cons pe_int (pa_cons pe_int (pa_cons pe_int (pa_cons (pe_op op_mod (pe_op op_fdiv (pv 3) pe_int) pe_int) (pa_cons (pe_menu (pa_cons pe_int (pa_cons (pe_un un_neg pe_int) (pa_cons pe_bl (pa_cons pe_non (pa_cons pe_str pa_nil))))) (pe_op op_mod (pe_op op_fdiv (pv 3) pe_int) pe_int) (fun _ _ => rfl)) pa_nil)))))))) (pe_op op_mod (pv 3) pe_int) (fun _ _ => rfl)))
        (pss_cons (ps_set (i := 10) sc__law_stepped.nd rfl (Or.inl rfl) (pe_fn (takes_of rfl rfl rfl rfl) c__law_told (hr.mono (by decide)) (by rfl) (pa_cons pe_int (pa_cons (pv 0) (pa_cons (pv 7) (pa_cons (pv 9) pa_nil))))))
        (pss_cons (ps_set (i := 11) sc__law_stepped.nd rfl (Or.inl rfl) (pe_fn (takes_of rfl rfl rfl rfl) c__law_due (hr.mono (by decide)) (by rfl) (pa_cons pe_int (pa_cons (pv 1) (pa_cons (pv 7) (pa_cons (pv 9) pa_nil))))))
        (pss_cut (ps_if (pt_cmpR (op_eqK (K := K) rfl hr.units) (pe_ix (ix_seqK (K := K) rfl) (pv 11) pe_int (fun _ _ => rfl)) pe_str (nomark _)) (pss_one (ps_expr (pe_fn (takes_of rfl rfl rfl rfl) c__law_done (hr.mono (by decide)) (by rfl) (pa_cons pe_int (pa_cons (pv 1) (pa_cons (pv 7) (pa_cons (pv 9) pa_nil))))))) pss_nil)
        (pss_one (ps_ret (pe_lst (pa_cons (pv 7) (pa_cons (pe_fn (takes_of rfl rfl rfl rfl) c__law_same (hr.mono (by decide)) (by rfl) (pa_cons (pv 10) (pa_cons (pv 11) pa_nil))) pa_nil))))))))) pss_nil)
        (pss_cons (ps_if (pt_cmpR (op_eqK (K := K) rfl hr.units) (pv 8) pe_int (nomark _)) (pss_cons (ps_set (i := 12) sc__law_stepped.nd rfl (Or.inl rfl) (pe_menu (pa_cons (pe_op op_gMul pe_int (pe_op op_sub (pe_op op_mod (pe_op op_fdiv (pv 3) pe_int) pe_int) pe_int)) (pa_cons (pe_op op_gAdd (pe_op op_gMul pe_int (pe_op op_mod (pe_op op_fdiv (pv 3) pe_int) (pv 5))) pe_int) (pa_cons (pe_un un_neg pe_int) (pa_cons (pe_op op_gMul pe_int (pe_op op_mod (pe_op op_fdiv (pv 3) pe_int) (pe_op op_pow pe_int pe_int))) pa_nil)))) (pe_op op_mod (pv 3) pe_int) (fun _ _ => rfl)))
        (pss_cons (ps_set (i := 13) sc__law_stepped.nd rfl (Or.inl rfl) (pe_op op_gAdd (pe_op op_gAdd (pv 4) pe_int) (pe_op op_mod (pe_op op_fdiv (pv 3) pe_int) pe_int)))
        (pss_cut (ps_if (pt_cmpR op_lt (pv 13) (pe_op op_sub (pv 5) pe_int) (nomark _)) (pss_cons (ps_expr (pe_mt (K := K) rfl (takes_of rfl rfl rfl rfl) (pv 0) c_Memory_write (hr.mono (by decide)) (pa_cons (pv 13) (pa_cons (pv 12) pa_nil))))
        (pss_one (ps_asg (pv 12) (pg_sub (pv 1) (pv 13) set_list)))) pss_nil)
        (pss_one (ps_ret (pe_lst (pa_cons (pv 4) (pa_cons pe_bl pa_nil)))))))) pss_nil)
        (pss_cons (ps_set (i := 14) sc__law_stepped.nd rfl (Or.inl rfl) (pe_menu (pa_cons pe_int (pa_cons pe_int (pa_cons pe_int (pa_cons pe_int pa_nil)))) (pe_op op_sub (pv 8) pe_int) (fun _ _ => rfl)))
        (pss_cons (ps_set (i := 9) sc__law_stepped.nd rfl (Or.inl rfl) (pe_menu (pa_cons pe_int (pa_cons pe_int (pa_cons pe_int (pa_cons (pe_menu (pa_cons pe_int (pa_cons (pe_un un_neg pe_int) (pa_cons pe_bl (pa_cons pe_non pa_nil)))) (pe_op op_mod (pe_op op_fdiv (pv 3) pe_int) pe_int) (fun _ _ => rfl)) pa_nil)))) (pe_op op_mod (pv 3) pe_int) (fun _ _ => rfl)))
        (pss_cut (ps_if (pt_cmpR (op_eqK (K := K) rfl hr.units) (pv 14) pe_int (nomark _)) (pss_one (ps_set (i := 9) sc__law_stepped.nd rfl (Or.inl rfl) (pe_menu (pa_cons (pe_op op_mod (pv 3) (pv 5)) (pa_cons (pe_op op_mod (pv 3) (pv 5)) (pa_cons (pe_op op_mod (pv 3) (pv 5)) (pa_cons (pv 5) (pa_cons pe_int (pa_cons pe_int (pa_cons (pe_un un_neg pe_int) (pa_cons pe_bl (pa_cons pe_non (pa_cons pe_str pa_nil)))))))))) (pe_op op_mod (pe_op op_fdiv (pv 3) pe_int) pe_int) (fun _ _ => rfl)))) pss_nil)
        (pss_cons (ps_set (i := 11) sc__law_stepped.nd rfl (Or.inl rfl) (pe_fn (takes_of rfl rfl rfl rfl) c__law_due (hr.mono (by decide)) (by rfl) (pa_cons (pv 14) (pa_cons (pv 1) (pa_cons (pv 7) (pa_cons (pv 9) pa_nil))))))
        (pss_cons (ps_set (i := 10) sc__law_stepped.nd rfl (Or.inl rfl) (pe_fn (takes_of rfl rfl rfl rfl) c__law_told (hr.mono (by decide)) (by rfl) (pa_cons (pv 14) (pa_cons (pv 0) (pa_cons (pv 7) (pa_cons (pv 9) pa_nil))))))
        (pss_cut (ps_if (pt_cmpR (op_eqK (K := K) rfl hr.units) (pe_ix (ix_seqK (K := K) rfl) (pv 11) pe_int (fun _ _ => rfl)) pe_str (nomark _)) (pss_one (ps_expr (pe_fn (takes_of rfl rfl rfl rfl) c__law_done (hr.mono (by decide)) (by rfl) (pa_cons (pv 14) (pa_cons (pv 1) (pa_cons (pv 7) (pa_cons (pv 9) pa_nil))))))) pss_nil)
        (pss_one (ps_ret (pe_lst (pa_cons (pv 7) (pa_cons (pe_fn (takes_of rfl rfl rfl rfl) c__law_same (hr.mono (by decide)) (by rfl) (pa_cons (pv 10) (pa_cons (pv 11) pa_nil))) pa_nil))))))))))))))))), ?rd⟩)
  case len => obtain ⟨m, dx, l, ws, r, c, e, at_, rfl, _⟩ := h; rfl
  case rd =>
    obtain ⟨m, dx, l, ws, r, c, e, at_, rfl, M, vw, ft, hr', rl, hs, ha, q⟩ := h
    have hz := M.sz
    have sz : 100 ≤ sizeLine := by rw [sizeLine_eq]; omega
    walk_at "w3"
    refine r_lenL hr' ?_
    walk_at "w3"
    rw [List.length_map]
    have hlen : (0 : Int) < (ws.length : Int) := by omega
    refine ⟨by omega, menu_pick (Thing H) ?_ fun v0 t0 => ?_⟩
    · have cs : c / 16 % 6 = 0 ∨ c / 16 % 6 = 1 ∨ c / 16 % 6 = 2 ∨ c / 16 % 6 = 3 ∨ c / 16 % 6 = 4 ∨ c / 16 % 6 = 5 := by omega
      rcases cs with g | g | g | g | g | g <;> rw [g] <;> refine ⟨_, rfl, ?_⟩
      · exact .inl ⟨_, rfl⟩
      · exact .inl ⟨_, rfl⟩
      · exact .inl ⟨_, rfl⟩
      · exact .inr odd_bl
      · exact .inr odd_non
      · exact .inr odd_str
    walk_at "w3"
    refine ⟨hlen, by omega, menu_pick (Thing H) ?_ fun v1 t1 => ?_⟩
    · have cs : c % 6 = 0 ∨ c % 6 = 1 ∨ c % 6 = 2 ∨ c % 6 = 3 ∨ c % 6 = 4 ∨ c % 6 = 5 := by omega
      rcases cs with g | g | g | g | g | g <;> rw [g] <;> refine ⟨_, rfl, ?_⟩
      · exact .inl ⟨_, rfl⟩
      · exact .inl ⟨_, rfl⟩
      · exact .inl ⟨_, rfl⟩
      · exact .inl ⟨_, rfl⟩
      · exact .inl ⟨_, rfl⟩
      · exact t0
    walk_at "w3"
    split
    · refine ⟨by omega, menu_pick (Thing H) ?_ fun v2 t2 => ⟨by omega, menu_pick (Thing H) ?_ fun v3 t3 => ?_⟩⟩
      · have cs : e / 8 % 5 = 0 ∨ e / 8 % 5 = 1 ∨ e / 8 % 5 = 2 ∨ e / 8 % 5 = 3 ∨ e / 8 % 5 = 4 := by omega
        rcases cs with g | g | g | g | g <;> rw [g] <;> refine ⟨_, rfl, ?_⟩
        · exact .inl ⟨_, rfl⟩
        · exact .inl ⟨_, rfl⟩
        · exact .inr odd_bl
        · exact .inr odd_non
        · exact .inr odd_str
      · have cs : e % 8 = 0 ∨ e % 8 = 1 ∨ e % 8 = 2 ∨ e % 8 = 3 ∨ e % 8 = 4 ∨ e % 8 = 5 ∨ e % 8 = 6 ∨ e % 8 = 7 := by omega
        rcases cs with g | g | g | g | g | g | g | g <;> rw [g] <;> refine ⟨_, rfl, ?_⟩
        · exact .inl ⟨_, rfl⟩
        · exact .inl ⟨_, rfl⟩
        · exact .inl ⟨_, rfl⟩
        · exact .inl ⟨_, rfl⟩
        · exact .inl ⟨_, rfl⟩
        · exact .inl ⟨_, rfl⟩
        · exact .inl ⟨_, rfl⟩
        · exact t2
      refine ⟨6, m, dx, l, ws, v1, v3, rfl, M, vw, ft, by omega, by omega, t1, t3, fun p H1 np ap nk M1 k1 th1 => ?_⟩
      have hr1 := k1 _ _ rl hr'
      refine ⟨6, r, ws, v1, v3, rfl, hr1, hz, vw, ft, by omega, by omega, th1 _ t1, th1 _ t3, fun q2 H2 nq2 s2 aq => ?_⟩
      have pr : p ≠ r := (ne_of_none hr' np).symm
      have qr : q2 ≠ r := (ne_of_none hr1 nq2).symm
      refine ⟨fun σ H4 => σ = [some (.ref m), some (.ref r), some (.int c), some (.int e), some (.int (at_ : Int)), some (.int (ws.length : Int)), some v0, some v1, some (.int (c / 6 % 8)), some v3, some (.ref p), some (.ref q2), none, none, none] ∧
        MemO K H4 m dx l (wordsOf ws 6 v1 v3) ∧ H4 r = some (.lst ((wordsOf ws 6 v1 v3).map V.int)) ∧ AnsO H4 p (ansOf ws 6 v1 v3) ∧ AnsO H4 q2 (ansOf ws 6 v1 v3) ∧ ∀ b o, b ≠ r → H2 b = some o → H4 b = some o,
        deed_if (.inl rfl) (M1.same s2) (s2 _ _ hr1) rl hz (ap.same s2) aq pr qr fun H4 M4 h4 ap4 aq4 k4 => ⟨rfl, M4, h4, ap4, aq4, k4⟩, ?_⟩
      rintro σ H4 ⟨rfl, M4, h4, ap4, aq4, k4⟩
      walk_at "w3"
      obtain ⟨f1, f2, f3⟩ := fit_words (way := 6) (v := v1) (z := v3) vw ft
      refine ⟨p, q2, _, rfl, ap4, aq4, kids_bound, fun H5 s5 => ⟨by omega, fun p6 hp6 => ?_⟩⟩
      have s6 := same_new (o := .lst [v1, .bl true]) hp6
      have t4 : Thing H4 v1 := thing_off (s2 _ _ hr1) h4 k4 (thing_same s2 (th1 _ t1))
      exact q p6 v1 _ _ f1 f2 f3 (M4.same (s5.trans s6)) ((s5.trans s6) _ _ h4) upd_same (thing_same (s5.trans s6) t4) fun b o h1 h2 g => (s5.trans s6) _ _ (k4 b o h2 (s2 _ _ (k1 b o h1 g)))
    · split
      · rename_i c3
        have m0 := Int.emod_nonneg (e / 4) (show (ws.length : Int) ≠ 0 by omega)
        have m1 := Int.emod_lt_of_pos (e / 4) hlen
        refine ⟨hlen, by omega, menu_pick (fun v => ∃ n, v = .int n ∧ (wordOf n).isSome = true) ?_ fun v ⟨n, ev, hn⟩ => ?_⟩
        · have cs : e % 4 = 0 ∨ e % 4 = 1 ∨ e % 4 = 2 ∨ e % 4 = 3 := by omega
          rcases cs with g | g | g | g <;> rw [g] <;> refine ⟨_, rfl, _, rfl, ?_⟩
          · rw [word_num (by omega)]; rfl
          · rw [word_place m0 (by omega)]; rfl
          · rfl
          · rw [word_num (by omega)]; rfl
        subst ev
        refine ⟨fun σ H4 => ∃ ws', σ = [some (.ref m), some (.ref r), some (.int c), some (.int e), some (.int (at_ : Int)), some (.int (ws.length : Int)), some v0, some v1, some (.int (c / 6 % 8)), none, none, none, some (.int n), some (.int ((at_ : Int) + 1 + e / 64 % 8)), none] ∧
          Vw ws' ∧ Fit ws' ∧ ws'.length = ws.length ∧ MemO K H4 m dx l ws' ∧ H4 r = some (.lst (ws'.map V.int)) ∧ ∀ b o, b ≠ l → b ≠ r → H b = some o → H4 b = some o, ?_, ?_⟩
        · split
          · obtain ⟨j, ej⟩ := Int.eq_ofNat_of_zero_le (show 0 ≤ (at_ : Int) + 1 + e / 64 % 8 by omega)
            rw [ej]
            refine ⟨recv M.ob, m, dx, l, ws, _, _, rfl, M, .inl ⟨_, rfl⟩, .inl ⟨_, rfl⟩, ?_⟩
            rw [placeOf_int, if_pos ⟨by omega, by omega⟩, wordV_int, if_pos hn, Int.toNat_natCast]
            dsimp only
            have M2 := M.put (ws.set j n) (List.length_set ..)
            have hr2 : upd H l (.lst ((ws.set j n).map V.int)) r = some (.lst (ws.map V.int)) := by rw [upd_ne rl]; exact hr'
            refine r_setL hr2 (by omega) (by rw [List.length_map]; omega) ?_
            rw [Int.toNat_natCast, ← List.map_set]
            refine ⟨ws.set j n, rfl, vw.set hn, ft.set (by omega) (fun h g => ?_), List.length_set .., ⟨by rw [upd_ne (ne_of M2.ob hr2 (by intro z; cases z))]; exact M2.ob, by rw [upd_ne rl.symm]; exact M2.ls, M2.sz⟩, upd_same, fun b o h1 h2 g => by rw [upd_ne h2, upd_ne h1]; exact g⟩
            have := (headAt_some g).2.1
            omega
          · exact ⟨ws, rfl, vw, ft, rfl, M, hr', fun _ _ _ _ g => g⟩
        rintro σ H4 ⟨ws', rfl, f1, f2, f3, M4, h4, k4⟩
        walk_at "w3"
        refine ⟨by omega, fun p6 hp6 => ?_⟩
        have s6 := same_new (o := .lst [.int (at_ : Int), .bl true]) hp6
        exact q p6 _ ws' _ f1 f2 f3 (M4.same s6) (s6 _ _ h4) upd_same (.inl ⟨_, rfl⟩) fun b o h1 h2 g => s6 _ _ (k4 b o h1 h2 g)
      · rename_i c0 c3
        refine ⟨by omega, menu_pick (fun v => v = .int 7 ∨ v = .int 8) ?_ fun v hv => ⟨by omega, menu_pick (Thing H) ?_ fun v2 t2 => ⟨by omega, menu_pick (Thing H) ?_ fun v3 t3 => ?_⟩⟩⟩
        · have cs : c / 6 % 8 - 4 = 0 ∨ c / 6 % 8 - 4 = 1 ∨ c / 6 % 8 - 4 = 2 ∨ c / 6 % 8 - 4 = 3 := by omega
          rcases cs with g | g | g | g <;> rw [g] <;> refine ⟨_, rfl, ?_⟩
          · exact .inl rfl
          · exact .inl rfl
          · exact .inr rfl
          · exact .inl rfl
        · have cs : e / 8 % 4 = 0 ∨ e / 8 % 4 = 1 ∨ e / 8 % 4 = 2 ∨ e / 8 % 4 = 3 := by omega
          rcases cs with g | g | g | g <;> rw [g] <;> refine ⟨_, rfl, ?_⟩
          · exact .inl ⟨_, rfl⟩
          · exact .inl ⟨_, rfl⟩
          · exact .inr odd_bl
          · exact .inr odd_non
        · have cs : e % 4 = 0 ∨ e % 4 = 1 ∨ e % 4 = 2 ∨ e % 4 = 3 := by omega
          rcases cs with g | g | g | g <;> rw [g] <;> refine ⟨_, rfl, ?_⟩
          · exact .inl ⟨_, rfl⟩
          · exact .inl ⟨_, rfl⟩
          · exact .inl ⟨_, rfl⟩
          · exact t2
        refine ⟨fun σ H4 => ∃ v4, σ = [some (.ref m), some (.ref r), some (.int c), some (.int e), some (.int (at_ : Int)), some (.int (ws.length : Int)), some v0, some v1, some (.int (c / 6 % 8)), some v4, none, none, none, none, some v] ∧ H4 = H ∧ Thing H v4, ?_, ?_⟩
        · rcases hv with rfl | rfl
          · walk_at "w3"
            exact ⟨_, rfl, t3⟩
          · walk_at "w3"
            refine ⟨hlen, hlen, hlen, by omega, menu_pick (Thing H) ?_ fun v4 t4 => ⟨_, rfl, t4⟩⟩
            have cs : e / 64 % 10 = 0 ∨ e / 64 % 10 = 1 ∨ e / 64 % 10 = 2 ∨ e / 64 % 10 = 3 ∨ e / 64 % 10 = 4 ∨ e / 64 % 10 = 5 ∨ e / 64 % 10 = 6 ∨ e / 64 % 10 = 7 ∨ e / 64 % 10 = 8 ∨ e / 64 % 10 = 9 := by omega
            rcases cs with g | g | g | g | g | g | g | g | g | g <;> rw [g] <;> refine ⟨_, rfl, ?_⟩
            · exact .inl ⟨_, rfl⟩
            · exact .inl ⟨_, rfl⟩
            · exact .inl ⟨_, rfl⟩
            · exact .inl ⟨_, rfl⟩
            · exact .inl ⟨_, rfl⟩
            · exact .inl ⟨_, rfl⟩
            · exact .inl ⟨_, rfl⟩
            · exact .inr odd_bl
            · exact .inr odd_non
            · exact .inr odd_str
        rintro σ H4 ⟨v4, rfl, rfl, t4⟩
        walk_at "w3"
        obtain ⟨way, rfl, hw⟩ : ∃ way, v = .int way ∧ (way = 7 ∨ way = 8) := by
          rcases hv with rfl | rfl
          · exact ⟨7, rfl, .inl rfl⟩
          · exact ⟨8, rfl, .inr rfl⟩
        refine ⟨way, r, ws, v1, v4, rfl, hr', hz, vw, ft, by omega, by omega, t1, t4, fun q2 H2 nq2 s2 aq => ?_⟩
        refine ⟨way, m, dx, l, ws, v1, v4, rfl, M.same s2, vw, ft, by omega, by omega, thing_same s2 t1, thing_same s2 t4, fun p H3 np ap nk M3 k3 th3 => ?_⟩
        have ql : q2 ≠ l := (ne_of_none M.ls nq2).symm
        have qr : q2 ≠ r := (ne_of_none hr' nq2).symm
        have pr : p ≠ r := (ne_of_none (s2 _ _ hr') np).symm
        have aq3 : AnsO H3 q2 (ansOf ws way v1 v4) := by
          cases ea : ansOf ws way v1 v4 with
          | err z =>
            rw [ea] at aq
            exact k3 _ _ ql aq
          | told a =>
            have en := ans_non (.inr hw) ea
            subst en
            rw [ea] at aq
            obtain ⟨y, hy, rfl⟩ := aq
            exact ⟨_, k3 _ _ ql hy, rfl⟩
        have hr3 := k3 _ _ rl (s2 _ _ hr')
        refine ⟨fun σ H5 => σ = [some (.ref m), some (.ref r), some (.int c), some (.int e), some (.int (at_ : Int)), some (.int (ws.length : Int)), some v0, some v1, some (.int (c / 6 % 8)), some v4, some (.ref p), some (.ref q2), none, none, some (.int way)] ∧
          MemO K H5 m dx l (wordsOf ws way v1 v4) ∧ H5 r = some (.lst ((wordsOf ws way v1 v4).map V.int)) ∧ AnsO H5 p (ansOf ws way v1 v4) ∧ AnsO H5 q2 (ansOf ws way v1 v4) ∧ ∀ b o, b ≠ r → H3 b = some o → H5 b = some o,
          deed_if (.inr hw) M3 hr3 rl hz ap aq3 pr qr fun H5 M5 h5 ap5 aq5 k5 => ⟨rfl, M5, h5, ap5, aq5, k5⟩, ?_⟩
        rintro σ H5 ⟨rfl, M5, h5, ap5, aq5, k5⟩
        walk_at "w3"
        obtain ⟨f1, f2, f3⟩ := fit_words (way := way) (v := v1) (z := v4) vw ft
        refine ⟨p, q2, _, rfl, ap5, aq5, kids_bound, fun H6 s6 => ⟨by omega, fun p6 hp6 => ?_⟩⟩
        have s7 := same_new (o := .lst [v1, .bl true]) hp6
        have t5 : Thing H5 v1 := thing_off hr3 h5 k5 (th3 _ (thing_same s2 t1))
        exact q p6 v1 _ _ f1 f2 f3 (M5.same (s6.trans s7)) ((s6.trans s7) _ _ h5) upd_same (thing_same (s6.trans s7) t5) fun b o h1 h2 g => (s6.trans s7) _ _ (k5 b o h2 (k3 b o h1 (s2 _ _ g)))
end

local macro_rules | `(tactic| walk_at "w3") => `(tactic| try simp only [↓x_var0, ↓x_varS, ↓x_c, ↓x_op, ↓x_un, ↓x_cb, ↓x_nil, ↓x_cons, ↓x_test, ↓x_b, ↓x_ex, ↓x_and, ↓x_or, ↓x_not, ↓x_andV, ↓x_orV, ↓x_notV, ↓x_tif, ↓x_chain, ↓x_menu, ↓x_menuI, ↓x_lst, ↓x_tup, ↓x_dnew, ↓x_callW, ↓x_callN, ↓x_seq, ↓x_next, ↓x_ret, ↓x_retN, ↓x_drop, ↓x_ifS, ↓x_asg, ↓x_name, ↓x_raise, ↓x_fld, ↓x_setF, ↓x_meth, ↓x_make, ↓x_sub, ↓r_min, ↓r_max, ↓x_yes, ↓x_for, ↓x_cut, ↓x_lc, ↓x_rng1, ↓x_rng2, ↓x_lst1, ↓x_itup, ↓x_rng3, ↓x_three, ↓x_lstg, ↓x_tupg, ↓x_adrS, ↓x_one, ↓x_two, ↓x_adr, ↓x_sl, ↓x_np, ↓x_pt, ↓x_int, ↓x_bm, ↓x_bm0, ↓x_consg, ↓x_nilg, ↓x_dget2, ↓x_dget1, ↓x_dget, ↓x_din, ↓x_dni, ↓x_dput, ↓x_dpop2, ↓r_isB, ↓r_notB, ↓x_enum, wipe, List.map_cons, List.map_nil, ↓x_isT, ↓r_isiII, ↓r_isiBB, ↓r_isiIB, ↓r_isiSS, ↓r_neNS, ↓r_neSN, ↓r_neNN, ↓r_eqNS, ↓r_eqSN, ↓r_eqNN, ↓r_eqIS, ↓r_neIS, ↓r_neSI, ↓r_neBS, ↓r_eqBB, ↓r_neBB, ↓x_start, ↓x_K, ↓x_start0, ↓r_i0, ↓r_i, ↓r_u, ↓r_addI, ↓r_addS, ↓r_mulI, ↓r_mulS, ↓r_eqI, ↓r_neI, ↓r_eqS, ↓r_neS, ↓r_absI, ↓r_intI, ↓r_intB, List.length_cons, List.length_nil, List.replicate, List.set_cons_zero, List.set_cons_succ, decide_eq_true_eq, Bool.not_eq_true', decide_eq_false_iff_not, if_true, if_false, Bool.false_eq_true, Bool.true_eq_false, ite_true, ite_false, Bool.not_true, Bool.not_false, c_div, n_ten, c_pow, not_true_eq_false, not_false_eq_true, decide_true, decide_false, true_and, and_true, and_self, true_or, or_true, Int.reduceLT, Int.reduceLE, Int.reduceMul, Int.reduceAdd, Int.reduceSub, Int.reducePow, Int.reduceNeg, Int.reduceDiv, Int.reduceMod, Nat.reducePow, Int.reduceToNat, Int.reduceEq, Int.reduceNe, Nat.reduceLT, Nat.reduceLeDiff, Nat.reduceAdd, ↓x_whole, ↓x_kind, Int.natCast_one])
def sp_law (K : PySem.W.Frag) : Sp := fun vs H Q _ => ∃ (a : Addr) (ns : List Int), vs = [.ref a] ∧ SqL K H a (ns.map V.int) ∧ ns.length ≤ 63 ∧ ∀ H', Q (.bl true) H'
theorem rg2 : ∀ j : Nat, j < 26 → RgC 1 j 2 (j / 2) := by
  show ∀ j : Nat, j < 26 → ((2 : Int) ≠ 0 ∧ (2 : Int).natAbs < 1073741824 ∧ Builtin.Range.small 1 j 2 = true ∧ Builtin.Range.rangeSize 1 j 2 = ((j / 2 : Nat) : Int))
  decide +kernel
theorem rep_flat {n : Nat} : (List.replicate n [V.int (-1)]).flatten = (List.replicate n (-1 : Int)).map V.int := by
  induction n with
  | zero => rfl
  | succ n ih => rw [List.replicate_succ, List.flatten_cons, ih, List.replicate_succ]; rfl
theorem Fit.rep {n : Nat} : Fit (List.replicate n (-1)) := fun i h hi e => by
  rw [List.length_replicate] at hi
  have : (List.replicate n (-1 : Int)).getD i 0 = -1 := by
    rw [List.getD_eq_getElem?_getD, List.getElem?_replicate, if_pos hi]
    rfl
  rw [this, head_none1] at e
  cases e
section
variable {P : Program} {w : World} {K : PySem.W.Frag} {mg : Str → Option Value} {base : Heap}
theorem f_law (T : Tx K mg) : Fn P w K mg base 10 "law" ["_law_script"] (sp_law K) := by
  have c__law_cell_at := f__law_cell_at (P := P) (w := w) (base := base) T
  have c_Memory___init__ := f_Memory___init__ (P := P) (w := w) (base := base) T
  have c__law_looked := f__law_looked (P := P) (w := w) (base := base) T
  have c__law_stepped := f__law_stepped (P := P) (w := w) (base := base) T
  have c__law_whole := f__law_whole (P := P) (w := w) (base := base) T
  have c_Memory_read := f_Memory_read (P := P) (w := w) (base := base) T
  refine T.mkFn 34 39 (d := d_law) (N := ["_law_script", "_law_size", "_law_memory", "_law_row", "_law_last", "_law_k", "_law_at", "_law_good"]) (k := 9) rfl rfl rfl rfl rfl sc_law (fun _ _ _ _ _ _ us hl => match us, hl with | [_], _ => rfl) (fun vs H Q E h => ?len) (fun cdv A outer s H vs Q E hr h => ⟨_,
      (pss_cons (ps_set (i := 1) sc_law.nd rfl (Or.inl rfl) (pe_op op_gAdd pe_int (pe_op op_mod (pe_fn (takes_of rfl rfl rfl rfl) c__law_cell_at (hr.mono (by decide)) (by rfl) (pa_cons (pv 0) (pa_cons pe_int pa_nil))) pe_int)))
        (pss_cons (ps_set (i := 2) sc_law.nd rfl (Or.inr rfl) (pe_mk (K := K) rfl (takes_of rfl rfl rfl rfl) c_Memory___init__ (hr.mono (by decide)) (by rfl) (pa_cons (pv 1) pa_nil)))
        (pss_cons (ps_set (i := 3) sc_law.nd rfl (Or.inr rfl) (pe_op op_gMul (pe_lst (pa_cons (pe_un un_neg pe_int) pa_nil)) (pv 1)))
        (pss_cons (ps_set (i := 4) sc_law.nd rfl (Or.inl rfl) (pe_op op_mod (pe_op op_fdiv (pe_fn (takes_of rfl rfl rfl rfl) c__law_cell_at (hr.mono (by decide)) (by rfl) (pa_cons (pv 0) (pa_cons pe_int pa_nil))) pe_int) (pe_op op_sub (pv 1) pe_int)))
        (pss_cons (ps_if (PW.pt (pw_or (pt_cmpR (op_neK (K := K) rfl hr.units) (pe_num (T.num 43) (by rfl)) pe_int (nomark _)) (pw_or1 (pt_not (pt_val (pe_fn (takes_of rfl rfl rfl rfl) c__law_looked (hr.mono (by decide)) (by rfl) (pa_cons (pv 2) (pa_cons (pv 3) (pa_cons (pv 4) pa_nil))))))))) (pss_one (ps_ret pe_bl)) pss_nil)
        (pss_cons (ps_for (passes_of rfl) rfl (pi_range3 rfl (T.free 49) (pa_cons pe_int (pa_cons (pe_callB (call_gMin rfl) (by rfl) (T.free 50) (by decide +kernel) (pa_cons pe_int (pa_cons (pe_callB (call_lenK (K := K) rfl) (by rfl) (T.free 47) PySem.boot_len (pa_cons (pv 0) pa_nil)) pa_nil))) (pa_cons pe_int pa_nil)))) (pg_name (i := 5) sc_law.nd rfl (Or.inl rfl)) (pss_cons (ps_asg (pe_fn (takes_of rfl rfl rfl rfl) c__law_stepped (hr.mono (by decide)) (by rfl) (pa_cons (pv 2) (pa_cons (pv 3) (pa_cons (pe_ix (ix_seqK (K := K) rfl) (pv 0) (pv 5) (fun _ _ => rfl)) (pa_cons (pe_fn (takes_of rfl rfl rfl rfl) c__law_cell_at (hr.mono (by decide)) (by rfl) (pa_cons (pv 0) (pa_cons (pe_op op_gAdd (pv 5) pe_int) pa_nil))) (pa_cons (pv 4) pa_nil)))))) (pg_lst (n := 2) rfl (pgs_cons (pg_name (i := 6) sc_law.nd rfl (Or.inl rfl)) (pgs_cons (pg_name (i := 7) sc_law.nd rfl (Or.inl rfl)) pgs_nil))))
        (pss_cons (ps_if (PW.pt (pw_or (pt_not (pt_val (pv 7))) (pw_or (pt_not (pt_val (pe_fn (takes_of rfl rfl rfl rfl) c__law_looked (hr.mono (by decide)) (by rfl) (pa_cons (pv 2) (pa_cons (pv 3) (pa_cons (pv 6) pa_nil)))))) (pw_or1 (pt_not (pt_val (pe_fn (takes_of rfl rfl rfl rfl) c__law_looked (hr.mono (by decide)) (by rfl) (pa_cons (pv 2) (pa_cons (pv 3) (pa_cons (pv 4) pa_nil)))))))))) (pss_one (ps_ret pe_bl)) pss_nil)
        (pss_one (ps_if (PW.pt (pw_and (pt_val (pe_fnH c__law_whole (roomN_of (hr.mono (by decide))) (by rfl) (pa_cons (pv 6) pa_nil))) (pw_and1 (pt_chain op_le op_lt pe_int (pv 6) (pe_op op_sub (pv 1) pe_int))))) (pss_one (ps_set (i := 4) sc_law.nd rfl (Or.inl rfl) (pv 6))) pss_nil)))))
        (pss_one (ps_ret (pe_callB (call_allK (K := K) rfl rfl) (by rfl) (T.free 51) (by decide +kernel) (pa_cons (pe_lc (own := [("_law_at", 6)]) (g := gName 6) rfl sc_law.nd (pi_range1 rfl (T.free 49) (pa_cons (pv 1) pa_nil)) (blkOk_by (own := [("_law_at", 6)]) (N := ["_law_script", "_law_size", "_law_memory", "_law_row", "_law_last", "_law_k", "_law_at", "_law_good"]) (sc := defScope s_law) (by decide +kernel)) (fun _ _ _ _ _ => (pg_name (i := 6) sc_law.nd rfl (Or.inl rfl))) (fun _ _ _ _ _ => pts_nil) (fun _ _ _ _ _ => (pe_cmpR (op_eqK (K := K) rfl hr.units) (pe_mt (K := K) rfl takes0 (pv 2) c_Memory_read (hr.mono (by decide)) (pa_cons (pv 6) pa_nil)) (pe_ix (ix_seqK (K := K) rfl) (pv 3) (pv 6) (fun _ _ => rfl)) (nomark _)))) pa_nil)))))))))), ?rd⟩)
  case len => obtain ⟨a, ns, rfl, _⟩ := h; rfl
  case rd =>
    obtain ⟨a, ns, rfl, hS, hl, q⟩ := h
    walk_at "w3"
    (repeat (first | (refine And.intro (by omega) ?_; walk_at "w3") | refine ⟨_, _, ns, rfl, hS, by omega, ?_⟩; walk_at "w3"))
    obtain ⟨H0, eH0⟩ : ∃ H0, H0 = H := ⟨H, rfl⟩
    have sz : 100 ≤ sizeLine := by rw [sizeLine_eq]; omega
    have szb : 4000 ≤ sizeLine := by rw [sizeLine_eq]; omega
    obtain ⟨n, en⟩ := Int.eq_ofNat_of_zero_le (show 0 ≤ 12 + cell ns 0 % 69 by omega)
    have hn : 12 ≤ n ∧ n ≤ 80 := by omega
    rw [en]
    intro m dx nm ndx ne
    refine ⟨m, dx, _, rfl, upd_same, .inl ⟨_, rfl⟩, ?_⟩
    rw [sizeV_int, if_pos ⟨by omega, by omega⟩, Int.toNat_natCast]
    intro l H2 nl M1 k1
    refine ⟨rfl, by omega, fun p0 np0 => ?_⟩
    have s1 := same_init nm ndx ne k1
    have sp0 := same_new (o := .lst [.int (-1)]) np0
    refine ⟨_, upd_same, by omega, by omega, by rw [Int.toNat_natCast]; show 1 * n ≤ sizeLine; omega, fun r nr => ?_⟩
    rw [Int.toNat_natCast, rep_flat]
    have sr := same_new (o := .lst ((List.replicate n (-1 : Int)).map V.int)) nr
    have sA := s1.trans (sp0.trans sr)
    have MA := M1.same (sp0.trans sr)
    have rl : r ≠ l := (ne_of_none (sp0 _ _ M1.ls) nr).symm
    have l0 : H l = none := none_of (same_mk nm ndx ne) nl
    have r0 : H r = none := none_of (s1.trans sp0) nr
    (repeat (first | (refine And.intro (by omega) ?_; walk_at "w3") | refine ⟨_, _, ns, rfl, (sA.seq hS), by omega, ?_⟩; walk_at "w3"))
    have n8 : (0 : Int) < (n : Int) - 8 := by omega
    obtain ⟨a0, ea⟩ := Int.eq_ofNat_of_zero_le (Int.emod_nonneg (cell ns 0 / 69) (show (n : Int) - 8 ≠ 0 by omega))
    have ha0 := Int.emod_lt_of_pos (cell ns 0 / 69) n8
    rw [ea] at ha0 ⊢
    refine ⟨m, dx, l, _, r, _, rfl, MA, Vw.rep, Fit.rep, upd_same, .inl ⟨_, rfl⟩, fun H3 s3 => ?_⟩
    walk_at "w3"
    have sB := sA.trans s3
    refine r_lenS (sB.seq hS) ?_
    walk_at "w3"
    obtain ⟨j, ej, hj, hj2⟩ : ∃ j : Nat, min 25 (((ns.map V.int).length : Nat) : Int) = (j : Int) ∧ j < 26 ∧ j ≤ ns.length := ⟨min 25 ns.length, by rw [List.length_map]; omega, by omega, by omega⟩
    rw [ej]
    refine ⟨j / 2, rg2 j hj, forW_step (fun t σ H' => ∃ o5 o6 o7 ws, ∃ at_ : Nat, σ = [some (.ref a), some (.int (n : Int)), some (.ref m), some (.ref r), some (.int (at_ : Int)), o5, o6, o7] ∧ Vw ws ∧ Fit ws ∧ ws.length = n ∧ MemO K H' m dx l ws ∧ H' r = some (.lst (ws.map V.int)) ∧ at_ + 8 < n ∧ Same H H')
      ⟨_, _, _, _, a0, rfl, Vw.rep, Fit.rep, List.length_replicate, MA.same s3, s3 _ _ upd_same, by omega, sB⟩ ?_ ?_⟩
    · rintro t σ H' ht ⟨o5, o6, o7, ws, at_, rfl, vw, ft, wl, M, hr, ha, s⟩
      walk_at "w3"
      have ex : atI (ns.map V.int) (1 + (t : Int) * 2) = some (.int (ns.getD (1 + 2 * t) 0)) := by
        refine at_pos (by omega) ?_
        have e : (1 + (t : Int) * 2).toNat = 1 + 2 * t := by omega
        rw [e, List.getElem?_map, getD_at (d := 0) (by omega)]
        rfl
      refine r_ixS (s.seq hS) ex ⟨a, _, ns, rfl, s.seq hS, by omega, ?_⟩
      refine ⟨m, dx, l, ws, r, _, _, at_, rfl, M, vw, ft, hr, rl, by omega, by omega, fun p v ws' H2 f1 f2 f3 M2 hr2 hp tv k => ?_⟩
      walk_at "w3"
      have s2 : Same H H2 := fun b o g => k b o (ne_of_none g l0) (ne_of_none g r0) (s _ _ g)
      refine ⟨_, .of hp, rfl, ?_⟩
      walk_at "w3"
      refine ⟨m, dx, l, _, r, _, rfl, M2, f1, f2, hr2, tv, fun H4 s4 => ?_⟩
      walk_at "w3"
      refine ⟨m, dx, l, _, r, _, rfl, M2.same s4, f1, f2, s4 _ _ hr2, .inl ⟨_, rfl⟩, fun H5 s5 => ?_⟩
      walk_at "w3"
      have s45 := s4.trans s5
      have fin : ∀ at2 : Nat, at2 + 8 < n → ∃ o5 o6' o7' ws, ∃ at_ : Nat, [some (.ref a), some (.int (n : Int)), some (.ref m), some (.ref r), some (.int (at2 : Int)), some (V.int (1 + (t : Int) * 2)), some v, some (V.bl true)] = [some (.ref a), some (.int (n : Int)), some (.ref m), some (.ref r), some (.int (at_ : Int)), o5, o6', o7'] ∧ Vw ws ∧ Fit ws ∧ ws.length = n ∧ MemO K H5 m dx l ws ∧ H5 r = some (.lst (ws.map V.int)) ∧ at_ + 8 < n ∧ Same H H5 :=
        fun at2 h2 => ⟨_, _, _, ws', at2, rfl, f1, f2, f3.trans wl, M2.same s45, s45 _ _ hr2, h2, s2.trans s45⟩
      rcases tv with ⟨i, rfl⟩ | o
      · walk_at "w3"
        split
        · split
          · obtain ⟨i, rfl⟩ := Int.eq_ofNat_of_zero_le (show 0 ≤ i by omega)
            exact fin i (by omega)
          · exact fin at_ ha
        · exact fin at_ ha
      · rw [odd_whole (odd_same s45 o)]
        walk_at "w3"
        exact fin at_ ha
    · rintro σ H' ⟨o5, o6, o7, ws, at_, rfl, vw, ft, wl, M, hr, ha, s⟩
      walk_at "w3"
      refine ⟨by omega, by omega, fun D hD => lc_mapR (fun _ => .bl true) (fun _ => rfl) (by omega) (fun i hi acc Q2 q2 => ?_) ?_⟩
      · have sD := same_new (o := .lst acc) hD
        have Mi := M.same sD
        walk_at "w3"
        refine ⟨recv Mi.ob, m, dx, l, ws, _, rfl, Mi, .inl ⟨_, rfl⟩, ?_⟩
        rw [Int.toNat_natCast] at hi
        have e0 : (0 : Int) + (i : Int) = (i : Int) := by omega
        rw [e0, placeOf_int, if_pos ⟨by omega, by omega⟩, Int.toNat_natCast]
        dsimp only
        refine r_ixL (sD _ _ hr) (v := .int (ws.getD i 0)) ?_ ?_
        · rw [List.getElem?_map, getD_at (d := 0) (by omega)]
          rfl
        walk_at "w3"
        exact q2
      · refine ⟨D, List.replicate (n : Int).toNat true, rfl, .of ?_, ?_⟩
        · rw [upd_same, List.map_replicate, List.map_const', List.length_range]
        · rw [show (List.replicate (n : Int).toNat true).all id = true from List.all_eq_true.mpr fun b hb => (List.mem_replicate.mp hb).2]
          exact q _
end

/-! ## the head and the end -/
abbrev RR : PySem.W.OpenRow := PySem.W.OpenLaw.row PySem.Challenge.rw_cellkeep_k04_cells_laid
abbrev hk : PySem.W.Hook := hookG 6 fa fn exL
def ob (s : PySem.W.SharedT) : He.AlD × Bool := lookG 6 fa fn exL (HandSHeadRun.getT s)
theorem ob_eq (s : PySem.W.SharedT) : ob s = hk.obs s.abs := lookG_eq (HandSHeadRun.getT_eq s)
def loose : List Str := (["_wall", "KeepError", "BadNumber", "BadWord", "BadCount", "NoPlace", "NoRoom", "NoSlot", "NoCell", "NoImage", "NoProgram", "MOST_NUMBER", "MOST_PLACE", "NOTHING", "is_whole", "number_word", "place_word", "kind", "worth", "MOST_SLOTS", "MOST_AGE", "need_slots", "lay", "head_of", "slots_of", "age_of", "words_of", "aged", "slot_place", "children"] : List Str) ++ (["send", "sent_to", "MOST_SIZE", "Memory", "_law_cell_at", "_law_whole", "_law_names", "_law_asked", "_law_told", "_law_is_head", "_law_due", "_law_done", "_law_same", "_law_looked", "_law_stepped"] : List Str)
theorem run (w : World) : HandSHeadRun.RunEq RR (PySem.W.view RR.prog [50]) hk ob 4000 loose w := by
  intro os
  kernel_rfl
theorem facts {w : World} {K : PySem.W.Frag} {h : Heap} {mg : Str → Option Value} {f : Addr} (X : K.In h) (G : h.Ns mainGlobals mg) (hfa : mg ("law" : Str) = some (.ref f)) (c : He.SaysD fa fn K) (ce : exOk exL K = true) :
    ∃ fd : FuncData, (∀ (s : Shared) (v : Value), BindsTo s fd ⟨[v], []⟩ [("_law_script", v)]) ∧ ∀ base : Heap, K.In base → base.Ns mainGlobals mg → FnOk (PySem.Challenge.rw_cellkeep_k04_cells_laid).prog w K mg base CX0 10 f fd ["_law_script"] (sp_law K) := by
  have T : Tx K mg := ⟨⟨h, X, G⟩, c, ce⟩
  have e := hfa.symm.trans (T.glo 39)
  cases e
  have F : ∀ base : Heap, Fn (PySem.Challenge.rw_cellkeep_k04_cells_laid).prog w K mg base 10 "law" ["_law_script"] (sp_law K) := fun base => f_law T
  exact ⟨_, fun s v => (F h).bd s [v] rfl, fun base _ _ => quiet (F base).ok fun _ _ _ _ z => z⟩

end Pr
open PySem PySem.W PySem.Calls PyProof.Rows
theorem PySem.Challenge.cw_cellkeep_k04_cells_laid_holds : PySem.Challenge.rw_cellkeep_k04_cells_laid.Holds := by
  w_on; o_law
  refine HandSHeadRun.head_any (r := OpenLaw.row PySem.Challenge.rw_cellkeep_k04_cells_laid) (q := view (OpenLaw.row PySem.Challenge.rw_cellkeep_k04_cells_laid).prog [50]) (H := Pr.hk) (ob := Pr.ob) (M := 4000) (loose := Pr.loose) (d := HandSHeadRun.topDef (OpenLaw.row PySem.Challenge.rw_cellkeep_k04_cells_laid).prog 50) (kwd := []) Pr.ob_eq
    (by kernel_rfl) (fun s => by kernel_rfl) Pr.run (by kernel_rfl) (by kernel_rfl) (by kernel_rfl) (by rfl) (by first | assumption | decide +kernel) (by decide +kernel) ⟨rfl, rfl, rfl, rfl, rfl, by decide +kernel⟩ ?hw ?hc
  case hw => w_witness2
  case hc =>
    refine L2.walk_ofE (l := PySem.Challenge.rw_cellkeep_k04_cells_laid) (n := 63) (k := 10) (x := "_law_script") (CX := L2.CX0) rfl (by decide) (by kernel_rfl) ⟨rfl, by decide, by decide⟩ ?F (fun _ _ _ _ z => z)
    case F =>
      intro w mg fa h Y G hmg0
      obtain ⟨K, KX, c, ce⟩ := Y
      have hmg : mg ("law" : PySem.Str) = some (.ref fa) := by
        have e : (HandSHeadRun.topDef (OpenLaw.row PySem.Challenge.rw_cellkeep_k04_cells_laid).prog 50).name = ("law" : PySem.Str) := by kernel_rfl
        rw [← e]
        exact hmg0
      obtain ⟨fd, hb, hF⟩ := Pr.facts (w := w) KX G hmg c ce
      exact ⟨K, fd, Pr.sp_law K, KX, hb, fun H a ns hl _ hS => ⟨a, ns, rfl, hS, hl, fun _ => rfl⟩, hF⟩
#print axioms PySem.Challenge.cw_cellkeep_k04_cells_laid_holds

