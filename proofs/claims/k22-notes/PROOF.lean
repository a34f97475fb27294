import PyProof.Rows.All
import Wide.All
import OpenK.AllK
import Wide.FinOn
import KE.KStateDown
import HandS.Base
import HandS.Call
import HandS.List
import HandS.Comp
import HandS.Ends
import HandS.Dict
import HandS.Iter
import HandS.Walk
import HandS.Text
import HandS.Words
import HandS.WordsList
import HandS.WordsDict
import HandS.Exc
import HandS.TryOnly
import HandS.TryMany
import HandS.ExcOwn
import HandS.WordsExc
import HandS.IsInst
import HandS.ExcIs
import HandS.Flow
import HandS.More
import HandS.Wide
import HandS.SortInts
import HandS.Defaults
import HandS.Head0
import HandS.Head1
import HandS.Head2
import HandS.HeadEnd
import HandS.HeadHook1
import HandS.HeadHook2
import PySem.Challenge.RW_cellkeep_k22_notes
set_option Elab.async false
set_option linter.all false
set_option maxRecDepth 100000
set_option maxHeartbeats 4000000
namespace G
open PySem PySem.Spec PyProof.Rows L2

/-! ## a caught exception as a tracked thing -/
/-- an exception object of class cls stands at a -/
def ExA (cls : Value) (a : Addr) : HO := .ext fun h => ∃ (o : Obj) (fv : Array Value), h.get? a = some o ∧ Zc cls none o ∧ o.data = .fields fv
theorem exA_ok {P : Program} {w : World} {H : Hp} {h : Heap} {a : Addr} {cls : Value} {o : Obj} {fv : Array Value} (e : h.get? a = some o) (z : Zc cls none o) (d : o.data = .fields fv) : ObjOk P w H h a (ExA cls a) :=
  ⟨⟨o, fv, e, z, d⟩, ⟨o, e⟩, fun _ _ ⟨o', fv', e', z', d'⟩ k => ⟨o', fv', k _ e', z', d'⟩⟩

section
variable {X : Cx} {pins : List (Addr × Obj)} {σ : L2.St} {H : Hp} {s : Shared}
/-- an object that stands untracked is tracked from now on -/
theorem track {a : Addr} {u : HO} (I : Inv X pins σ H s) (na : H a = none) (n0 : X.s_0.heap.get? a = none) (nL : a ≠ X.env.locals) (nC : ∀ x c, X.env.cells.lookup x = some c → c ≠ a)
    (nP : ∀ p ∈ X.pn ++ pins, p.1 ≠ a) (new : ObjOk X.prog X.w (upd H a u) s.heap a u) : Inv X pins σ (upd H a u) s := by
  have ne0 : ∀ b o, X.s_0.heap.get? b = some o → b ≠ a := fun b o e z => by rw [z, n0] at e; cases e
  have neH : ∀ b o, H b = some o → b ≠ a := fun b o e z => by rw [z, na] at e; cases e
  refine ⟨I.ok, I.os, I.bare, ⟨I.base.keep, I.base.slot, ?_, I.base.there, ?_, ?_, ?_⟩, I.loc, I.cell, ?_, ?_, ?_, ?_, I.len⟩
  · intro b o e n hx
    rw [upd_ne (ne0 b o e)]
    exact I.base.free b o e n hx
  · intro b xs e
    have q := I.base.tups b xs e
    rw [upd_ne (neH b _ q)]
    exact q
  · intro b o u' e
    have q := I.base.frzs b o u' e
    rw [upd_ne (neH b _ q)]
    exact q
  · intro b ps e
    obtain ⟨m, q⟩ := I.base.tbls b ps e
    exact ⟨m, by rw [upd_ne (neH b _ q)]; exact q⟩
  · rw [upd_ne (Ne.symm nL)]
    exact I.free
  · intro x c e
    rw [upd_ne (nC x c e)]
    exact I.freeC x c e
  · intro p hp
    obtain ⟨e, n, ne, nf, d⟩ := I.pin p hp
    exact ⟨e, by rw [upd_ne (nP p hp)]; exact n, ne, nf, d⟩
  · intro b o e
    by_cases hb : b = a
    · subst hb
      rw [upd_same] at e
      cases e
      exact new
    · rw [upd_ne hb] at e
      refine (I.hok b o e).stay (fun _ _ _ z => z) (fun c z => ?_) fun c xs z => ?_
      · rw [upd_ne (neH c _ z)]
        exact z
      · rw [upd_ne (neH c _ z)]
        exact z
/-- a list that was laid since the def began is forgotten -/
theorem forget {a : Addr} {xs : List V} (I : Inv X pins σ (upd H a (.lst xs)) s) (na : H a = none) (n0 : X.H_0 a = none) : Inv X pins σ H s := by
  have back : ∀ b, b ≠ a → upd H a (.lst xs) b = H b := fun b hb => upd_ne hb
  have nn : ∀ b, upd H a (.lst xs) b = none → H b = none := fun b e => by
    by_cases hb : b = a
    · rw [hb, upd_same] at e
      cases e
    · rw [upd_ne hb] at e
      exact e
  refine ⟨I.ok, I.os, I.bare, ⟨I.base.keep, I.base.slot, fun b o e n hx => nn b (I.base.free b o e n hx), I.base.there, ?_, ?_, ?_⟩, I.loc, I.cell, nn _ I.free, fun x c e => nn _ (I.freeC x c e), fun p hp => ?_, ?_, I.len⟩
  · intro b ys e
    rw [← back b (fun z => by rw [z, n0] at e; cases e)]
    exact I.base.tups b ys e
  · intro b o u' e
    rw [← back b (fun z => by rw [z, n0] at e; cases e)]
    exact I.base.frzs b o u' e
  · intro b ps e
    rw [← back b (fun z => by rw [z, n0] at e; cases e)]
    exact I.base.tbls b ps e
  · obtain ⟨e, n, r⟩ := I.pin p hp
    exact ⟨e, nn _ n, r⟩
  · intro b o e
    have hb : b ≠ a := fun z => by rw [z, na] at e; cases e
    have q : upd H a (.lst xs) b = some o := by rw [upd_ne hb]; exact e
    refine (I.hok b o q).stay (fun _ _ _ z => z) (fun c z => ?_) fun c ys z => ?_
    · rw [← back c (fun y => by rw [y, upd_same] at z; cases z)]
      exact z
    · rw [← back c (fun y => by rw [y, upd_same] at z; cases z)]
      exact z
/-- what a fresh address of now was ahead of the def -/
theorem fresh0 {a : Addr} (I : Inv X pins σ H s) (na : H a = none) (nt : ∀ o, X.H_0 a = some o → ∃ ob, X.s_0.heap.get? a = some ob) (hs : s.heap.objs.size ≤ a) : X.H_0 a = none := by
  cases e : X.H_0 a with
  | none => rfl
  | some o =>
    obtain ⟨ob, q⟩ := nt o e
    exact absurd (Nat.lt_of_lt_of_le (Heap.lt_size q) (Nat.le_trans I.sz hs)) (Nat.lt_irrefl _)
end
end G
namespace G
open PySem PySem.Spec PyProof.Rows L2
/-! ## a display that is subscripted at once -/
section
variable {X : Cx} {pins : List (Addr × Obj)} {σ : L2.St} {H : Hp} {s : Shared}
theorem itemAt {value slice : Expr} {E : Value → Shared → Prop} {Q : Value → Shared → Prop} {p : Addr} {xs : List V} {its : List Value} {i : Int} {t : Tok} {z : V} (r : Vals xs its) (pl : PlainL s.heap p its.toArray) (hz : xs.length ≤ sizeLine) (he : atI xs i = some z)
    (fin : ∀ w, RelV z w → Q w s) (hs : subscripted slice false (.ref p) (.int i t) = operate [.ref p, .int i t] (getItem (.ref p) (.int i t))) :
    wpAny (model X.prog X.w) X.A (subscriptTail value slice (.ref p) (.int i t)) Q E s := by
  obtain ⟨j, g1, g2, g3, g4, g5⟩ := atI_get he
  obtain ⟨u, eu, ru⟩ := r.get g2
  have ln := r.length
  have big := line63
  by_cases c : 0 ≤ i
  · have ej : i.toNat = j := Option.some.inj ((seqIndex_of c g5).symm.trans g1)
    exact item_listR pl.isList c (by omega) (by subst ej; simpa using eu) (fin u ru) hs
  · have ej : (i + (its.toArray.size : Int)).toNat = j := by
      have z1 := (seqIndex_neg (by omega) g4).symm.trans g1
      simp only [List.size_toArray, ← ln]
      exact Option.some.inj z1
    refine subscriptTail_builtinR (x := u) pl.isList.typeIs slot_list_getitem.lookup ?_ hs
    refine wpAny_getItem_list_neg (Q := fun r s' => r = u ∧ Q r s') pl.isList (by omega) ?_ (by omega) (by subst ej; simpa using eu) ⟨rfl, fin u ru⟩
    simp only [List.size_toArray]
    omega
/-- [a, b, ..][i]: the list is never seen again -/
def tMenu (ta : TA) (ti : TE) : TE := fun σ H Q => ta σ H fun xs H1 => xs.length ≤ sizeLine ∧ ti σ H1 fun y H2 => ∃ i v, y = .int i ∧ atI xs i = some v ∧ Q v H2
theorem pe_menu {es : List Expr} {b : Expr} {ta : TA} {tb : TE} {p1 pos : Pos} (ha : PA X es ta) (hb : PE X b tb) (hs : PlainIx b) : PE X (.Subscript (.List es p1) b pos) (tMenu ta tb) := by
  refine ⟨fun pins s σ H Q I h => ?_⟩
  refine Subscript_ (wpAny_List_spliced (thn (ha.run p1 pins s σ H _ I h) fun us s1 ⟨xs, H1, I1, r, z, q⟩ => ⟨by rw [← r.length]; exact z, ?_⟩))
  have hf : H1 s1.heap.objs.size = none := I1.hok.fresh (Nat.le_refl _)
  have I2 : Inv X pins σ H1 { s1 with heap := s1.heap.push { cls := .type "list", data := .seq us.toArray } } := I1.kept (t' := s1.toks) fun _ _ e => Heap.get?_push_of_some _ e
  have eo : (s1.heap.push { cls := .type "list", data := .seq us.toArray }).get? s1.heap.objs.size = some { cls := .type "list", data := .seq us.toArray } := Heap.get?_push_size _ rfl
  have I3 := I2.pinned (fp := [s1.heap.objs.size]) (fun b hb => by
    have e : b = s1.heap.objs.size := by simpa using hb
    subst e
    exact I1.fpOk (Nat.le_refl _) hf) fun b hb => by
    have e : b = s1.heap.objs.size := by simpa using hb
    subst e
    exact ⟨_, eo, fun v z => by cases z⟩
  refine thn (hb.run _ _ σ H1 _ I3 q) fun u s2 ⟨y, H2, I4, ry, i, v, ey, hv, q2⟩ => ?_
  subst ey
  obtain ⟨t, rfl⟩ := ry
  have e2 : s2.heap.get? s1.heap.objs.size = some { cls := .type "list", data := .seq us.toArray } :=
    (I4.pin (s1.heap.objs.size, _) (List.mem_append_right _ (List.mem_append_right _ (mem_pinsAt (List.mem_cons_self) eo)))).1
  exact itemAt r ⟨_, _, e2, rfl, rfl, rfl⟩ z hv (fun w rw' => ⟨v, H2, I4.unpinned, rw', q2⟩) (hs _ _)
end
/-! ## defs that may be called while an exception is handled: they raise nothing -/
structure RoomN (k : Nat) (A : Around) : Prop where
  dp : A.depth + 3 * k + 5 < recursionLimit
  un : A.units + 16 * k + 200 < cLine
theorem roomN_of {k : Nat} {A : Around} (r : Room k A) : RoomN k A := ⟨r.dp, r.un⟩
theorem roomN_mark {k : Nat} {A : Around} {v : Option Value} (r : Room k A) : RoomN k (A.mark v) := ⟨r.dp, r.un⟩
theorem RoomN.mono {j k : Nat} {A : Around} (r : RoomN k A) (h : j ≤ k) : RoomN j A := ⟨by have := r.dp; omega, by have := r.un; omega⟩
theorem RoomN.deeper {k : Nat} {A : Around} (r : RoomN (k + 1) A) (env : Env) : RoomN k (A.deeper env) :=
  ⟨by have h := r.dp; show A.depth + 1 + (3 * k + 5) < _; omega, by have h := r.un; show A.units + 3 + (16 * k + 200) < _; omega⟩
abbrev cxN (P : Program) (w : World) (K : PySem.W.Frag) (mg : Str → Option Value) (base : Heap) (N : List Str) (qual : Str) (scope : Scope) (f : Addr) (cd : Value) (A : Around) (outer : List Env) (s : Shared) (H : Hp) : Cx :=
  { cxOf CX0 P w K mg base N qual scope f cd A outer s H E0 with calm := false }
structure FnN (P : Program) (w : World) (K : PySem.W.Frag) (mg : Str → Option Value) (base : Heap) (k : Nat) (f : Addr) (fd : FuncData) (ps : List Str) (sp : Sp) : Prop where
  len : ∀ vs H Q E, sp vs H Q E → vs.length = ps.length
  run : ∀ (A : Around) (outer : List Env) (s : Shared) (H : Hp) (args : Args) (us : List Value) (vs : List V) (Q : VK), RoomN k A → Env0 P w K mg base A outer s H → BindsTo s fd args (ps.zip us) → Vals vs us → sp vs H Q E0 →
    codeAny (model P w) A (.call (.ref f) args) (CR CX0 outer P w H s Q E0) s
theorem FnN.mono {P : Program} {w : World} {K : PySem.W.Frag} {mg : Str → Option Value} {base : Heap} {j k : Nat} {f : Addr} {fd : FuncData} {ps : List Str} {sp : Sp} (F : FnN P w K mg base j f fd ps sp) (h : j ≤ k) : FnN P w K mg base k f fd ps sp :=
  ⟨F.len, fun A outer s H args us vs Q hr => F.run A outer s H args us vs Q (hr.mono h)⟩
section
variable {P : Program} {w : World} {K : PySem.W.Frag} {mg : Str → Option Value} {base : Heap}
theorem fn_ofN {x qual : Str} {params : Arguments} {body : List Stmt} {scope : Scope} {dvs : List V} {kws : List (Str × V)} {f : Addr} {fd : FuncData} {N ps : List Str} {k : Nat} {sp : Sp} (F : FunD K x qual params body scope dvs kws f fd) (S : FnScope N ps scope)
    (len : ∀ vs H Q E, sp vs H Q E → vs.length = ps.length)
    (hbody : ∀ (cdv : Value) (A : Around) (outer : List Env) (s : Shared) (H : Hp) (vs : List V) (Q : VK), RoomN k (A.deeper (envOfC qual scope s.heap.objs.size f cdv)) → sp vs H Q E0 →
      ∃ t, PSs (cxN P w K mg base N qual scope f cdv A outer s H) body t ∧ t { nx := fun _ H' => Q .non H', rt := Q } (start N vs) H) : FnN P w K mg base (k + 1) f fd ps sp := by
  obtain ⟨oc, od, dV, kV, doc, pm, an, cdv, ct, osl, rfl, lk, hcd, -, -⟩ := F.ex
  refine ⟨len, fun A outer s H args us vs Q hr e0 hb r hsp => ?_⟩
  have hl := len _ _ _ _ hsp
  have st : ∀ b o, base.get? b = some o → s.heap.get? b = some o := fun b o e => (e0.bs b o e).1
  have KX : K.In s.heap := e0.mod.kin.keeps st
  refine codeAny_call_function (by have := hr.dp; omega) (KX _ _ lk) rfl S.co S.gen rfl (PySem.W.codeRec_of KX hcd) (hb _ _ _ _ ?_)
  refine wpAny_newFunctionEnv_cells S.kind (fun y hy => ?_) fun env he s1 x => ?_
  · rcases S.par y.1 (List.of_mem_zip hy).1 with q | q
    · exact .inl q
    · exact .inr ⟨q, PySem.W.cellsFrom_some _ _ _ (.inl q)⟩
  subst he
  refine ⟨(e0.mod.nolimit.keeps st).keeps x.toInCall.keep, codeAny_func ?_⟩
  obtain ⟨t, ht, hq⟩ := hbody cdv A outer s H vs Q (hr.deeper _) hsp
  have J : Inv (cxOf CX0 P w K mg base N qual scope f cdv { A with handled := none } outer s H E0) [] (start N vs) H s1 := inv_start S rfl ⟨e0.frames, e0.mod, e0.bs, e0.bsz, e0.funs, e0.frf, e0.hok, e0.bare⟩ hl r x
  have I : Inv (cxN P w K mg base N qual scope f cdv A outer s H) [] (start N vs) H s1 :=
    ⟨⟨J.ok.mod, J.ok.kind, J.ok.glob, J.ok.blt, J.ok.above, J.ok.inj, J.ok.has, J.ok.cab, fun z => Bool.noConfusion (show false = true from z), Around.frames_deeper e0.frames, J.ok.stk, J.ok.exf, J.ok.bs, J.ok.bsz, J.ok.noex, J.ok.exfs, J.ok.funs, J.ok.frf⟩,
      J.os, J.bare, J.base, J.loc, J.cell, J.free, J.freeC, J.pin, J.hok, J.len⟩
  refine wpAny_mono (ht.run [] s1 (start N vs) H _ I hq) (fun fl s' hs => ?_) fun e s' hs => hs
  cases fl with
  | ret u =>
    obtain ⟨v, σ', H', J', rv, q⟩ := hs
    exact ⟨v, H', J'.os, J'.bare, J'.base, J'.hok, rv, q⟩
  | next =>
    obtain ⟨σ', H', J', q⟩ := hs
    exact ⟨.non, H', J'.os, J'.bare, J'.base, J'.hok, rfl, q⟩
  | brk => exact hs.elim fun _ z => z.elim fun _ y => y.2.elim
  | cont => exact hs.elim fun _ z => z.elim fun _ y => y.2.elim
/-- as any def -/
theorem FnN.ok {k : Nat} {f : Addr} {fd : FuncData} {ps : List Str} {sp : Sp} (F : FnN P w K mg base k f fd ps sp) (h0 : ∀ vs H Q E, sp vs H Q E → sp vs H Q E0) : FnOk P w K mg base (L2.CX P w) k f fd ps sp :=
  ⟨F.len, fun A outer s H args us vs Q E hr e0 hb r hsp => codeAny_mono (F.run A outer s H args us vs Q (roomN_of hr) e0 hb r (h0 _ _ _ _ hsp)) fun r s' hq => by
    cases r with
    | error e => exact hq.elim
    | ok fl => cases fl with
      | ret u => exact hq
      | next => exact hq.elim
      | brk => exact hq.elim
      | cont => exact hq.elim⟩
end
section
variable {X : Cx} {k : Nat} {f : Addr} {fd : FuncData} {ps : List Str} {sp : Sp} {x : Str} {q pos : Pos} {e : Expr} {es : List Expr} {t : TA}
def tCallN (sp : Sp) (t : TA) : TE := fun σ H Q => t σ H fun vs H1 => sp vs H1 Q E0
theorem pe_callN (F : FnN X.prog X.w X.K X.mg X.base k f fd ps sp) (hr : RoomN k X.A) (hg : Gl X x) (hm : X.mg x = some (.ref f)) (hk : PySem.W.keepIn X.K (.ref f) = true) (hb : Binds X.K fd ps [])
    (ha : PA X (e :: es) t) (hdb : (x == ("__debug__" : Str)) = false := by decide) (he : starEach (e :: es) X.env = (false, eval e X.env) :: starEach es X.env := by rfl) (hpl : (backTo pos (starEach es X.env)).any (·.1) = false := by rfl) :
    PE X (.Call (.Name x q) (e :: es) [] pos) (tCallN sp t) := by
  refine ⟨fun pins s σ H Q I h => ?_⟩
  refine wpAny_Call_Name_kw (ld_glob I hg hm ?_ hdb)
  refine PySem.W.callWith_K (h₀ := X.base) I.ok.mod.kin hk (thn (ha.run pos pins s σ H _ I h) fun us s1 hh => ?_) he hpl
  obtain ⟨vs, H1, I1, r, h2⟩ := hh
  refine ⟨I1.kIn, ?_⟩
  have hl : us.length = ps.length := by rw [← r.length]; exact F.len _ _ _ _ h2
  have b := hb s1 us I1.kIn (by rw [List.append_nil]; exact hl)
  rw [List.append_nil] at b
  refine wpAny_call (codeAny_mono (F.run X.A X.stack s1 H1 ⟨us, []⟩ us vs Q hr I1.env0 b r h2) fun r s' hq => ?_)
  cases r with
  | error e => exact hq.elim
  | ok fl => cases fl with
    | ret u => exact I1.after hq
    | next => exact hq.elim
    | brk => exact hq.elim
    | cont => exact hq.elim
end
end G
namespace G
open PySem PySem.Spec PyProof.Rows L2
/-! ## calls whose exceptions the surroundings take (W) -/
section
variable {X : Cx} {k : Nat} {f C : Addr} {fd : FuncData} {ps : List Str} {sp : Sp} {W : WX} {x m : Str} {p pos apos : Pos} {e o : Expr} {es : List Expr} {ta : TE} {t : TA}
/-- f(..) -/
def tCallW (sp : Sp) (W : WX) (t : TA) : TE := fun σ H Q => t σ H fun vs H1 => sp vs H1 Q fun c d H2 => W c d σ H2
theorem pe_callW (tk : Takes X W) (F : FnOk X.prog X.w X.K X.mg X.base (L2.CX X.prog X.w) k f fd ps sp) (hr : Room k X.A) (hg : Gl X x) (hm : X.mg x = some (.ref f)) (hk : PySem.W.keepIn X.K (.ref f) = true) (hb : Binds X.K fd ps [])
    (ha : PA X (e :: es) t) (hdb : (x == ("__debug__" : Str)) = false := by decide) (he : starEach (e :: es) X.env = (false, eval e X.env) :: starEach es X.env := by rfl) (hpl : (backTo pos (starEach es X.env)).any (·.1) = false := by rfl) :
    PE X (.Call (.Name x p) (e :: es) [] pos) (tCallW sp W t) := pe_callS F hr hg hm hk hb (fun σ => passAt tk σ) ha hdb he hpl
theorem pe_callW0 (tk : Takes X W) (F : FnOk X.prog X.w X.K X.mg X.base (L2.CX X.prog X.w) k f fd ps sp) (hr : Room k X.A) (hg : Gl X x) (hm : X.mg x = some (.ref f)) (hk : PySem.W.keepIn X.K (.ref f) = true) (hb : Binds X.K fd ps [])
    (hdb : (x == ("__debug__" : Str)) = false := by decide) : PE X (.Call (.Name x p) [] [] pos) (tCallW sp W tNil) := by
  refine ⟨fun pins s σ H Q I h => wpAny_Call_Name_kw (ld_glob I hg hm ?_ hdb)⟩
  exact PySem.W.callWith_K0 I.kIn hk (run_fnS (us := []) (E := WE W) F hr hb (passAt tk σ) I .nil h)
/-- o.m(..) -/
def tMethW (C : Addr) (m : Str) (sp : Sp) (W : WX) (ta : TE) (t : TA) : TE := fun σ H Q => ta σ H fun x H1 => ∃ a dx fs, x = .ref a ∧ H1 a = some (.ins C dx fs) ∧ fs.lookup m = none ∧ t σ H1 fun vs H2 => sp (x :: vs) H2 Q fun c d H3 => W c d σ H3
theorem pe_methW {pl : Sem Bool} (tk : Takes X W) (he : PE X o ta) (c : Cls X.K C) (hm : Meth X.K C m f) (F : FnOk X.prog X.w X.K X.mg X.base (L2.CX X.prog X.w) k f fd ps sp) (hr : Room k X.A) (hb : Binds X.K fd ps []) (ha : PA X (e :: es) t)
    (hst : starEach (e :: es) X.env = (false, eval e X.env) :: starEach es X.env := by rfl) (hpl : (backTo pos (starEach es X.env)).any (·.1) = false := by rfl)
    (ht : eval (.Call (.Attribute o m apos) (e :: es) [] pos) X.env = (do
      let z ← eval o X.env
      standAt apos.atName
      let (g, one) ← holding [z] (getMethod z m pl)
      callWith pos g one (backTo pos (starEach (e :: es) X.env)) (backToKw pos (keywordEach [] X.env))) := by rfl) :
    PE X (.Call (.Attribute o m apos) (e :: es) [] pos) (tMethW C m sp W ta t) := by
  refine ⟨fun pins s σ H Q I h => ?_⟩
  refine PySem.W.methodCall_KW (pl := pl) (thn (he.run pins s σ H _ I h) fun u s1 hh => ?_) ht
  obtain ⟨y, H1, I1, ry, a, dx, fs, ey, ea, l, q⟩ := hh
  subst ey
  obtain rfl : u = Value.ref a := ry
  refine getmeth_ok I1 ea c hm l ?_
  refine PySem.W.callWith_K (first := [.ref a]) (h₀ := X.base) I.ok.mod.kin hm.kp (thn (ha.run pos pins s1 σ H1 _ I1 q) fun us s2 h2 => ?_) hst hpl
  obtain ⟨vs, H2, I2, r, q2⟩ := h2
  exact ⟨I2.kIn, run_fnS (us := .ref a :: us) (vs := .ref a :: vs) (E := WE W) F hr hb (passAt tk σ) I2 (.cons rfl r) q2⟩
theorem pe_methW0 {pl : Sem Bool} (tk : Takes X W) (he : PE X o ta) (c : Cls X.K C) (hm : Meth X.K C m f) (F : FnOk X.prog X.w X.K X.mg X.base (L2.CX X.prog X.w) k f fd ps sp) (hr : Room k X.A) (hb : Binds X.K fd ps [])
    (ht : eval (.Call (.Attribute o m apos) [] [] pos) X.env = (do
      let z ← eval o X.env
      standAt apos.atName
      let (g, one) ← holding [z] (getMethod z m pl)
      callWith pos g one (backTo pos (starEach [] X.env)) (backToKw pos (keywordEach [] X.env))) := by rfl) :
    PE X (.Call (.Attribute o m apos) [] [] pos) (tMethW C m sp W ta tNil) := by
  refine ⟨fun pins s σ H Q I h => ?_⟩
  refine PySem.W.methodCall_KW (pl := pl) (thn (he.run pins s σ H _ I h) fun u s1 hh => ?_) ht
  obtain ⟨y, H1, I1, ry, a, dx, fs, ey, ea, l, q⟩ := hh
  subst ey
  obtain rfl : u = Value.ref a := ry
  refine getmeth_ok I1 ea c hm l ?_
  exact PySem.W.callWith_K0 (first := [.ref a]) I1.kIn hm.kp (run_fnS (us := [.ref a]) (vs := [.ref a]) (E := WE W) F hr hb (passAt tk σ) I1 (.cons rfl .nil) q)
/-- C(..) -/
def tMakeW (C : Addr) (sp : Sp) (W : WX) (t : TA) : TE := fun σ H Q => t σ H fun vs H1 => ∀ x dx, H1 x = none → H1 dx = none → dx ≠ x →
  sp (.ref x :: vs) (upd (upd H1 dx (.own x)) x (.ins C dx [])) (fun v H2 => v = .non ∧ Q (.ref x) H2) fun c d H3 => W c d σ H3
theorem run_makeW {pins : List (Addr × Obj)} {σ : L2.St} {H : Hp} {s : Shared} {Q : VK} {us : List Value} {vs : List V} (tk : Takes X W) (M : Mk X.K C f) (F : FnOk X.prog X.w X.K X.mg X.base (L2.CX X.prog X.w) k f fd ps sp) (hr : Room (k + 1) X.A) (hb : Binds X.K fd ps [])
    (I : Inv X pins σ H s) (r : Vals vs us)
    (h : ∀ x dx, H x = none → H dx = none → dx ≠ x → sp (.ref x :: vs) (upd (upd H dx (.own x)) x (.ins C dx [])) (fun v H2 => v = .non ∧ Q (.ref x) H2) fun c d H3 => W c d σ H3) :
    wpAny (model X.prog X.w) X.A (call (.ref C) us) (EP X pins σ Q) X.xe s := by
  have go := h (s.heap.objs.size + 1) s.heap.objs.size (I.hok.fresh (Nat.le_succ _)) (I.hok.fresh (Nat.le_refl _)) (Nat.ne_of_lt (Nat.lt_succ_self _))
  have J := Inv.made (C := C) I
  have r2 : Vals (V.ref (s.heap.objs.size + 1) :: vs) (Value.ref (s.heap.objs.size + 1) :: us) := .cons rfl r
  have hl : (Value.ref (s.heap.objs.size + 1) :: us).length = ps.length := r2.length.symm.trans (F.len _ _ _ _ go)
  have b := hb { s with heap := (s.heap.push PySem.W.emptyDict).push (PySem.W.instObj C s.heap.objs.size) } (Value.ref (s.heap.objs.size + 1) :: us) J.kIn (by rw [List.append_nil]; exact hl)
  rw [List.append_nil] at b
  refine wpAny_call (make_map (f := f) I.kIn M.makes M.init (beq_iff_eq.mp M.fn) (codeAny_mono (F.run _ X.stack _ _ ⟨Value.ref (s.heap.objs.size + 1) :: us, []⟩ _ _ _ _ (hr.make C us []) (J.env0.make C us []) b r2 go) fun r s' hq => ?_))
  cases r with
  | error e => exact passAt tk σ pins _ _ e s' J hq
  | ok fl =>
    cases fl with
    | ret u =>
      obtain ⟨v, H', I3, rv, ev, q3⟩ := J.after hq
      subst ev
      exact ⟨rv, V.ref (s.heap.objs.size + 1), H', I3, rfl, q3⟩
    | next => exact hq.elim
    | brk => exact hq.elim
    | cont => exact hq.elim
theorem pe_makeW (tk : Takes X W) (M : Mk X.K C f) (F : FnOk X.prog X.w X.K X.mg X.base (L2.CX X.prog X.w) k f fd ps sp) (hr : Room (k + 1) X.A) (hg : Gl X x) (hm : X.mg x = some (.ref C)) (hb : Binds X.K fd ps [])
    (ha : PA X (e :: es) t) (hdb : (x == ("__debug__" : Str)) = false := by decide) (he : starEach (e :: es) X.env = (false, eval e X.env) :: starEach es X.env := by rfl) (hpl : (backTo pos (starEach es X.env)).any (·.1) = false := by rfl) :
    PE X (.Call (.Name x p) (e :: es) [] pos) (tMakeW C sp W t) := by
  refine ⟨fun pins s σ H Q I h => wpAny_Call_Name_kw (ld_glob I hg hm ?_ hdb)⟩
  refine PySem.W.callWith_K (h₀ := X.base) I.ok.mod.kin M.kp (thn (ha.run pos pins s σ H _ I h) fun us s1 hh => ?_) he hpl
  obtain ⟨vs, H1, I1, r, q⟩ := hh
  exact ⟨I1.kIn, run_makeW tk M F hr hb I1 r q⟩
theorem pe_makeW0 (tk : Takes X W) (M : Mk X.K C f) (F : FnOk X.prog X.w X.K X.mg X.base (L2.CX X.prog X.w) k f fd ps sp) (hr : Room (k + 1) X.A) (hg : Gl X x) (hm : X.mg x = some (.ref C)) (hb : Binds X.K fd ps [])
    (hdb : (x == ("__debug__" : Str)) = false := by decide) : PE X (.Call (.Name x p) [] [] pos) (tMakeW C sp W tNil) := by
  refine ⟨fun pins s σ H Q I h => wpAny_Call_Name_kw (ld_glob I hg hm ?_ hdb)⟩
  exact PySem.W.callWith_K0 I.kIn M.kp (run_makeW (us := []) tk M F hr hb I .nil h)
end

/-! ## try .. except x as n, the exception a tracked thing in the suite -/
/-- what the clause wishes; slot i is n's -/
def wTr (K : PySem.W.Frag) (c : Value) (i : Nat) (ts : TS) (Wo : WX) (D : Ends) : WX := fun cls d σ H => ∃ b, PySem.W.exmOne K cls c = some b ∧
  (b = true → d = none ∧ ∀ a, H a = none → ts { nx := fun σ' H' => D.nx (σ'.set i none) H', rt := D.rt, bk := fun σ' H' => D.bk (σ'.set i none) H', ct := fun σ' H' => D.ct (σ'.set i none) H' } (σ.set i (some (.ref a))) (upd H a (ExA cls a))) ∧ (b = false → Wo cls d σ H)
section
variable {X : Cx} {x n : Str} {c : Value} {i : Nat} {body suite : List Stmt} {b0 : Stmt} {np pos pos' : Pos} {tb : WX → TS} {ts : TS} {Wo : WX}
theorem toSuite {pins : List (Addr × Obj)} {σ : L2.St} {H : Hp} {s : Shared} (I : Inv X pins σ H s) (a : Addr) : Inv (X.suite a (X.pn ++ pins)) [] σ H s :=
  ⟨I.ok.suite _ _, I.os, I.bare, I.base, I.loc, I.cell, I.free, I.freeC, fun p hp => I.pin p (by simpa using hp), I.hok, I.len⟩
theorem ofSuite {pins pl : List (Addr × Obj)} {σ : L2.St} {H : Hp} {s : Shared} {a : Addr} (ok : X.Ok) (I : Inv (X.suite a (X.pn ++ pins)) pl σ H s) : Inv X pins σ H s :=
  ⟨ok, I.os, I.bare, I.base, I.loc, I.cell, I.free, I.freeC, fun p hp => I.pin p (List.mem_append_left _ hp), I.hok, I.len⟩
theorem ps_tryT (hs : X.stack = X.env :: X.outer) (hf : X.env.frame = some X.env.locals) (hex : X.ex = []) (hN : X.N.Nodup) (hi : X.N[i]? = some n) (hln : X.env.kindOf n = some .local) (hc : Names X x c) (tk : Takes X Wo)
    (hb : ∀ (W : WX) (pn : List (Addr × Obj)) (xe : Value → Shared → Prop), Takes (X.tr pn xe) W → PassesOwn (model X.prog X.w) X.A X.env xe → PSs (X.tr pn xe) body (tb W))
    (hsu : ∀ (a : Addr) (pn : List (Addr × Obj)), PSs (X.suite a pn) (b0 :: suite) ts) :
    PS X (.Try body [.ExceptHandler (some (.Name x np)) (some n) (b0 :: suite) pos'] [] [] pos) (fun D σ H => tb (wTr X.K c i ts Wo D) D σ H) := by
  refine ⟨fun pins s σ H D I h => ?_⟩
  have ok := I.ok
  have hfr : X.A.frames = some (X.env :: X.outer) := by rw [ok.frames, hs]
  have lo : Loc X.env.scope n := .inl hln
  let rest : List ExceptHandler := [.ExceptHandler (some (.Name x np)) (some n) (b0 :: suite) pos']
  let M := model X.prog X.w
  let wish : Value → Shared → Prop := fun e u1 => wpAny M X.A (noteFrame e X.env) (fun _ u2 => wpAny M X.A (setFlight e none) (fun _ u3 => wpAny M X.A (handleBy e X.env rest) (SP X pins D) X.xe u3) X.xe u2) X.xe u1
  refine wpAny_Try_except (wpAny_mono ((hb (wTr X.K c i ts Wo D) (X.pn ++ pins) wish (fun u s' air => ?_) PassesOwn.looking).run [] s σ H D (I.toTry _) h) (fun fl s1 hsp => ?_) (fun e s1 he => he))
  · obtain ⟨a, B, sg, pi', σ1, H1, cls, d, rfl, Jt, nb, up, sky, na, os, ag, b, e1, yes, no⟩ := air
    have J : Inv X pins σ1 H1 sg := Jt.ofTry ok
    have sky' : Sky B (X.env :: X.outer) a (Zc cls d) X.env.locals s'.heap := by rw [← hs]; exact sky
    show wpAny M X.A (noteFrame (.ref a) X.env) _ _ _
    refine Sky.land Zc.steady hfr hf sky' fun h3 fl3 up3 => ?_
    have u3 := up.trans up3
    have J3 : Inv X pins σ1 H1 { s' with heap := h3 } := J.landed nb fl3.1 u3 os ag
    obtain ⟨o3, f3, g3, z3, d3⟩ := fl3.there
    have nfr : a ∉ frs (X.env :: X.outer) := fun hm => by
      obtain ⟨-, o', g', nf⟩ := fl3.2.2.1.mem hm
      rw [g3] at g'
      cases g'
      exact nf _ d3
    have nL : a ≠ X.env.locals := fun z => nfr (List.mem_filterMap.mpr ⟨X.env, List.mem_cons_self, by rw [hf, z]⟩)
    have nst : a ∉ frs X.stack := by rw [hs]; exact nfr
    have nB : B.get? a = none := fl3.2.1
    have ng : sg.heap.get? a = none := by
      cases e : sg.heap.get? a with
      | none => rfl
      | some o =>
        rw [nb a o e nst] at nB
        cases nB
    have n0 : X.s_0.heap.get? a = none := by
      cases e : X.s_0.heap.get? a with
      | none => rfl
      | some o =>
        obtain ⟨o', q⟩ := J.base.there a o e (by rw [hex]; exact List.not_mem_nil)
        rw [ng] at q
        cases q
    have nC : ∀ y z, X.env.cells.lookup y = some z → z ≠ a := fun y z e q => by
      obtain ⟨v, ob, e2, -⟩ := J.cell y z e
      rw [q, ng] at e2
      cases e2
    have nP : ∀ p ∈ X.pn ++ pins, p.1 ≠ a := fun p hp q => by
      have e2 := (J.pin p hp).1
      rw [q, ng] at e2
      cases e2
    have S3 := toSuite J3 a
    refine wpAny_handleBy_cons (codeAny_handlers_test ?_) (by intro q; cases q)
    have LT : PySem.W.Looks M h3 (typeOf (.ref a)) cls := fun _ _ _ _ k q => wpAny_typeOf_ref (k _ _ g3) (by rw [z3.1]; exact q)
    have LM := PySem.W.exm_one (M := M) J3.kIn LT e1
    have test : ∀ {Q : Value → Shared → Prop} {E : Value → Shared → Prop}, Q c { s' with heap := h3 } → wpAny M (X.A.mark (some (.ref a))) (eval (.Name x np) X.env) Q E { s' with heap := h3 } := fun {Q E} q => by
      obtain ⟨hg, hdb, hm | ⟨hm, hv, hnn⟩⟩ := hc
      · exact ld_glob (X := X.suite a (X.pn ++ pins)) S3 hg hm q hdb
      · exact ld_blt (X := X.suite a (X.pn ++ pins)) S3 hg hm hv q hnn hdb
    refine test (LM.here ?_)
    cases b with
    | true =>
      refine codeAny_handlers_suite_as (HandSPX.lands_againZ fl3 fun h4 fl4 up4 => ?_)
      have J4 : Inv X pins σ1 H1 { s' with heap := h4 } := J.landed nb fl4.1 (u3.trans up4) os ag
      obtain ⟨o4, f4, g4, z4, d4⟩ := fl4.there
      obtain ⟨ed, go⟩ := yes rfl
      subst ed
      have J5 := track (u := ExA cls a) J4 na n0 nL nC nP (exA_ok g4 z4 d4)
      refine store_ok (X := X.suite a (X.pn ++ pins)) (v := .ref a) (toSuite J5 a) hN hi lo rfl (fun s5 S5 => ?_) (.inr hln)
      refine wpAny_mono ((hsu a (X.pn ++ pins)).run [] s5 _ _ _ S5 (go a na)) (fun fl s6 hsp => ?_) (fun _ _ z => False.elim z)
      have out : ∀ {σ6 : L2.St} {H6 : Hp} {Q : Shared → Prop}, Inv (X.suite a (X.pn ++ pins)) [] σ6 H6 s6 → (∀ s7, Inv X pins (σ6.set i none) H6 s7 → Q s7) →
          wpAny M X.A (do bindName X.env n .none; unbindBehindTheSuite X.env n pos') (fun _ s7 => Q s7) X.xe s6 := fun S6 hq => gone_ok (ofSuite ok S6) hN hi hln hq
      cases fl with
      | next => exact hsp.elim fun _ z => z.elim fun _ q => out q.1 fun s7 J7 => ⟨_, _, J7, q.2⟩
      | brk => exact hsp.elim fun _ z => z.elim fun _ q => out q.1 fun s7 J7 => ⟨_, _, J7, q.2⟩
      | cont => exact hsp.elim fun _ z => z.elim fun _ q => out q.1 fun s7 J7 => ⟨_, _, J7, q.2⟩
      | ret u =>
        obtain ⟨v6, σ6, H6, S6, r6, q6⟩ := hsp
        exact out S6 fun s7 J7 => ⟨_, _, _, J7, r6, q6⟩
    | false =>
      show wpAny M X.A (handleBy (.ref a) X.env []) _ _ _
      refine wpAny_handleBy_nil ?_
      obtain ⟨-, -, -, oe, vs, T, oT, ts', he, hz, hd, h1, hr⟩ := id fl3
      unfold PySem.passOn
      refine wpAny_bind (wpAny_field he hd h1 ?_)
      rw [if_neg (show ¬ ((Value.ref T == Value.none) = true) from by simp)]
      have fin : wpAny M X.A (setFlight (.ref a) X.env.frame) (fun _ u4 => wpAny M X.A (throw (.ref a) : Sem Flow) (SP X pins D) X.xe u4) X.xe { s' with heap := h3 } := by
        rw [hf]
        refine HandSPX.setFlight_upZ fl3 fun h4 hh4 up4 => wpAny_throw (tk _ _ ?_)
        exact ⟨a, B, sg, pins, σ1, H1, cls, d, rfl, J, nb, u3.trans up4, .inr (.inr (by rw [hs]; exact hh4)), na, os, ag, no rfl⟩
      first
        | exact wpAny_bind (wpAny_pure (wpAny_bind fin))
        | exact wpAny_bind fin
  · cases fl with
    | next => exact hsp.elim fun σ1 z => z.elim fun H1 q => wpAny_execs_nil ⟨σ1, H1, q.1.ofTry ok, q.2⟩
    | brk => exact hsp.elim fun σ1 z => z.elim fun H1 q => ⟨σ1, H1, q.1.ofTry ok, q.2⟩
    | cont => exact hsp.elim fun σ1 z => z.elim fun H1 q => ⟨σ1, H1, q.1.ofTry ok, q.2⟩
    | ret u =>
      obtain ⟨v, σ1, H1, J, r, q⟩ := hsp
      exact ⟨v, σ1, H1, J.ofTry ok, r, q⟩
end
end G
namespace G
open PySem PySem.Spec PyProof.Rows L2
/-! ## isinstance -/
def tyO : Option HO → Option String
  | some (.lst _) => some "list"
  | some (.frz _ (.lst _)) => some "list"
  | some (.tup _) => some "tuple"
  | some (.dK _) => some "dict"
  | some (.dT _) => some "dict"
  | _ => none
def tyOf : V → Hp → Option String
  | .non, _ => some "NoneType"
  | .bl _, _ => some "bool"
  | .int _, _ => some "int"
  | .str _, _ => some "str"
  | .ref a, H => tyO (H a)
  | _, _ => none
theorem tyOf_ok {K : PySem.W.Frag} {x : V} {H : Hp} {t : String} (h : tyOf x H = some t) : TyX K H x (.type t) := by
  cases x with
  | non => cases h; exact .base .non
  | bl b => cases h; exact .base (.bl b)
  | int i => cases h; exact .base (.int i)
  | str z => cases h; exact .base (.str z)
  | byt z => cases h
  | flt z => cases h
  | ty z => cases h
  | ref a =>
    have h1 : tyO (H a) = some t := h
    unfold tyO at h1
    split at h1
    · rename_i e; cases h1; exact .base (.lst e)
    · rename_i e; cases h1; exact .base (.frz e)
    · rename_i e; cases h1; exact .base (.tup e)
    · rename_i e; cases h1; exact .base (.dK e)
    · rename_i e; cases h1; exact .base (.dT e)
    · cases h1
/-- the classes that are asked of plain things, and the answer -/
def isB (t n : String) : Bool := t == n || (t == "bool" && n == "int")
def tys : List String := ["NoneType", "bool", "int", "str", "list", "tuple", "dict"]
theorem isB_all : ∀ t ∈ tys, ∀ n ∈ (["int", "bool", "str", "list", "tuple", "dict"] : List String), kitB t n = some (isB t n) := by decide +kernel
theorem tyOf_in {x : V} {H : Hp} {t : String} (h : tyOf x H = some t) : t ∈ tys := by
  unfold tyOf at h
  split at h
  all_goals first
    | (cases h; decide)
    | (unfold tyO at h; split at h <;> first | (cases h; decide) | (cases h))
    | (cases h)
/-- isinstance(x, T) of a plain thing -/
def gIsi : List V → Hp → VK → Prop
  | [x, .ty n], H, Q => n ∈ (["int", "bool", "str", "list", "tuple", "dict"] : List String) ∧ ∃ t, tyOf x H = some t ∧ Q (.bl (isB t n)) H
  | _, _, _ => False
section
variable {X : Cx}
theorem call_gIsi : CallR X (.builtin "isinstance") gIsi := by
  intro pins s σ H xs us Q I r h
  unfold gIsi at h
  split at h
  · obtain ⟨hn, t, ht, q⟩ := h
    exact call_isi pins s σ _ _ us Q I r ⟨_, _, .type t, .type _, _, rfl, .ty _, tyOf_ok ht, kit_ty (isB_all t (tyOf_in ht) _ hn), q⟩
  · exact h.elim
/-- isinstance(e, C) of a caught error -/
def gIsE (K : PySem.W.Frag) : List V → Hp → VK → Prop
  | [.ref a, c], H, Q => ∃ D u b, H a = some (ExA (.ref D) a) ∧ ExcC K D ∧ ClsV c u ∧ PySem.W.kitOne K (.ref D) u = some b ∧ Q (.bl b) H
  | _, _, _ => False
theorem exA_kit {pins : List (Addr × Obj)} {σ : L2.St} {H : Hp} {s : Shared} {a D : Addr} (I : Inv X pins σ H s) (h : H a = some (ExA (.ref D) a)) (C : ExcC X.K D) : ∃ P : Heap → Prop, PySem.W.KitX X.K (.ref a) (.ref D) P ∧ P s.heap := by
  obtain ⟨⟨o, fv, e, z, d⟩, -, -⟩ := I.hok a _ h
  have J : PySem.W.InstAt s.heap a o D none := by
    obtain ⟨oc, od, dt, sl⟩ := o
    obtain ⟨z1, z2⟩ := z
    dsimp only at z1 z2 d
    subst z1 z2 d
    exact ⟨e, rfl, rfl, trivial⟩
  exact ⟨_, PySem.W.handS_kitx_exc C.hg C.hk C.hs C.hd C.ha C.hn C.ht C.hm, J⟩
theorem call_gIsE : CallR X (.builtin "isinstance") (gIsE X.K) := by
  intro pins s σ H xs us Q I r h
  unfold gIsE at h
  split at h
  · obtain ⟨D, u, b, ha, C, hc, hk, q⟩ := h
    obtain ⟨u1, u2, rfl, r1, r2⟩ := vals2 r
    have e2 := hc.eq r2
    subst e2
    cases (show u1 = Value.ref _ from r1)
    obtain ⟨P, Z, p⟩ := exA_kit I ha C
    exact PySem.W.kia_one Z I.kIn p hk (fun z => nomatch z) fun tk => ⟨.bl b, _, I.tok tk, rfl, q⟩
  · exact h.elim
/-- isinstance(e, (C1, C2, ..)) of a caught error: the tuple is never seen again -/
def tIsT (K : PySem.W.Frag) (ta : TE) (tc : TA) : TE := fun σ H Q => ta σ H fun x H1 => tc σ H1 fun cs H2 => cs.length ≤ sizeLine ∧ ∃ a D us b, x = .ref a ∧ H2 a = some (ExA (.ref D) a) ∧ ExcC K D ∧ Paired ClsV cs us ∧ PySem.W.kitAny K (.ref D) us = some b ∧ Q (.bl b) H2
theorem pe_isT {a : Expr} {es : List Expr} {x1} {ta : TE} {tc : TA} {p tp pos : Pos} (hg : Gl X "isinstance") (hm : X.mg "isinstance" = none) (ha : PE X a ta) (hc : PA X es tc)
    (he : starEach [a, .Tuple es x1 tp] X.env = [(false, eval a X.env), (false, eval (.Tuple es x1 tp) X.env)] := by rfl) : PE X (.Call (.Name "isinstance" p) [a, .Tuple es x1 tp] [] pos) (tIsT X.K ta tc) := by
  refine ⟨fun pins s σ H Q I h => ?_⟩
  refine wpAny_Call_Name_kw (ld_blt I hg hm (by decide +kernel : bootBuiltins "isinstance" = some (.builtin "isinstance")) ?_ (by decide) (by decide))
  refine PyProof.Rows.callWith_builtin1 (rest := [.Tuple es x1 tp]) ?_ he rfl
  rw [he]
  show wpAny _ _ (spliced [(false, eval a X.env), (false, eval (.Tuple es x1 tp) X.env)]) _ _ _
  refine Calls.spliced_cons (thn (ha.run pins s σ H _ I h) fun u s1 ⟨x, H1, I1, rx, q1⟩ => ?_)
  refine Calls.spliced_cons (wpAny_Tuple_spliced (x1 := x1) (thn (hc.run tp pins s1 σ H1 _ I1 q1) fun us s2 hh => ?_))
  obtain ⟨cs, H2, I2, rc, hz, y, D, ws, b, ex, hy, C, hcl, hk, q⟩ := hh
  subst ex
  cases (show u = Value.ref y from rx)
  refine ⟨by rw [← rc.length]; exact hz, Calls.spliced_nil ?_⟩
  have e3 := ClsV.all hcl rc
  subst e3
  have I3 : Inv X pins σ H2 { s2 with heap := s2.heap.push { cls := .type "tuple", data := .seq us.toArray } } := I2.kept (t' := s2.toks) fun _ _ e => Heap.get?_push_of_some _ e
  obtain ⟨P, Z, p⟩ := exA_kit I3 hy C
  exact PySem.W.kia_tup Z I3.kIn p (Heap.get?_push_size _ rfl) hk (fun z => nomatch z) fun tk => ⟨.bl b, H2, I3.tok tk, rfl, q⟩

/-! ## operators by the kinds of their values -/
def gAdd : R2
  | .int i, .int j, H, Q => Q (.int (i + j)) H
  | .str i, .str j, H, Q => i.length + j.length ≤ sizeLine ∧ Q (.str (i ++ j)) H
  | .ref a, .ref b, H, Q => ∃ xs zs, H a = some (.lst xs) ∧ H b = some (.lst zs) ∧ xs.length + zs.length ≤ sizeLine ∧ ∀ p, H p = none → Q (.ref p) (upd H p (.lst (xs ++ zs)))
  | _, _, _, _ => False
theorem op_gAdd : OpR X (binaryOp .Add) gAdd := by
  intro pins s σ H x y v u Q I rx ry h
  unfold gAdd at h
  split at h
  · exact op_add pins s σ _ _ _ v u Q I rx ry ⟨_, _, rfl, rfl, h⟩
  · exact op_add_str pins s σ _ _ _ v u Q I rx ry ⟨_, _, rfl, rfl, h.1, h.2⟩
  · obtain ⟨xs, zs, h1, h2, h3, h4⟩ := h
    exact op_cat pins s σ _ _ _ v u Q I rx ry ⟨_, _, xs, zs, rfl, rfl, h1, h2, h3, h4⟩
  · exact h.elim
def gMul : R2
  | .int i, .int j, H, Q => ((-(2 ^ 64) < i ∧ i < 2 ^ 64) ∨ (-(2 ^ 64) < j ∧ j < 2 ^ 64)) ∧ Q (.int (i * j)) H
  | .str z, .int n, H, Q => (n = 0 ∨ n = 1) ∧ Q (.str (if n = 1 then z else Str.empty)) H
  | .ref a, .int k, H, Q => ∃ xs, H a = some (.lst xs) ∧ -(2 ^ 63) ≤ k ∧ k < 2 ^ 63 ∧ xs.length * k.toNat ≤ sizeLine ∧ ∀ p, H p = none → Q (.ref p) (upd H p (.lst ((List.replicate k.toNat xs).flatten)))
  | _, _, _, _ => False
theorem op_gMul : OpR X (binaryOp .Mult) gMul := by
  intro pins s σ H x y v u Q I rx ry h
  unfold gMul at h
  split at h
  · exact op_mul pins s σ _ _ _ v u Q I rx ry ⟨_, _, rfl, rfl, h.1, h.2⟩
  · rename_i z n
    obtain ⟨hn, q⟩ := h
    obtain ⟨t, rfl⟩ := rx
    obtain ⟨t', rfl⟩ := ry
    rcases hn with rfl | rfl
    · exact PySem.P.mul_str_none (by decide) (by decide) ⟨.str Str.empty, _, I.tok _, ⟨_, rfl⟩, q⟩
    · refine PySem.P.mul_str (by decide) (fun _ z => by simp at z) (fun _ z => by simp at z) ?_
      exact ⟨.str z, _, I, ⟨_, rfl⟩, q⟩
  · obtain ⟨xs, h1, h2, h3, h4, h5⟩ := h
    exact op_rep pins s σ _ _ _ v u Q I rx ry ⟨_, _, xs, rfl, rfl, h1, h2, h3, h4, h5⟩
  · exact h.elim
/-- == : flat values; else data of any depth -/
def gEq (K : PySem.W.Frag) : R2 := fun x y H Q => if flatV x && flatV y then Q (.bl (eqV x y)) H else rEqD K x y H Q
def gNe (K : PySem.W.Frag) : R2 := fun x y H Q => if flatV x && flatV y then Q (.bl (!eqV x y)) H else rNeD K x y H Q
theorem flat_eqv {K : PySem.W.Frag} {H : Hp} {x y : V} (hx : flatV x = true) (hy : flatV y = true) :
    (scal x y = true ∧ decide (x = y) = eqV x y) ∨ ∃ d e, Dp K H x d ∧ Dp K H y e ∧ SeqAt.shaped d = true ∧ SeqAt.shaped e = true ∧ PyData.eqv d e = eqV x y := by
  cases x <;> first | (cases hx; done) | skip
  all_goals (cases y <;> first | (cases hy; done) | skip)
  case bl.int b i => exact .inr ⟨_, _, .bl b, .int i, by cases b <;> decide, rfl, rfl⟩
  case int.bl i b => exact .inr ⟨_, _, .int i, .bl b, rfl, by cases b <;> decide, rfl⟩
  all_goals refine .inl ⟨rfl, ?_⟩
  all_goals first
    | rfl
    | exact dec_int
    | exact dec_bl
    | exact dec_str
theorem op_gEq (hu : X.A.units + 64 < cLine) : OpR X (compareOp .Eq) (gEq X.K) := by
  intro pins s σ H x y v u Q I rx ry h
  unfold gEq at h
  split at h
  · rename_i c
    obtain ⟨c1, c2⟩ := Bool.and_eq_true_iff.mp c
    rcases flat_eqv (K := X.K) (H := H) c1 c2 with ⟨h1, h2⟩ | ⟨d, e, h1, h2, h3, h4, h5⟩
    · exact op_eq pins s σ _ _ _ v u Q I rx ry ⟨h1, by rw [h2]; exact h⟩
    · exact op_eqD hu pins s σ _ _ _ v u Q I rx ry ⟨d, e, h1, h2, h3, h4, by rw [h5]; exact h⟩
  · exact op_eqD hu pins s σ _ _ _ v u Q I rx ry h
theorem op_gNe (hu : X.A.units + 64 < cLine) : OpR X (compareOp .NotEq) (gNe X.K) := by
  intro pins s σ H x y v u Q I rx ry h
  unfold gNe at h
  split at h
  · rename_i c
    obtain ⟨c1, c2⟩ := Bool.and_eq_true_iff.mp c
    rcases flat_eqv (K := X.K) (H := H) c1 c2 with ⟨h1, h2⟩ | ⟨d, e, h1, h2, h3, h4, h5⟩
    · exact op_ne pins s σ _ _ _ v u Q I rx ry ⟨h1, by rw [h2]; exact h⟩
    · exact op_neD hu pins s σ _ _ _ v u Q I rx ry ⟨d, e, h1, h2, h3, h4, by rw [h5]; exact h⟩
  · exact op_neD hu pins s σ _ _ _ v u Q I rx ry h
/-- abs, int(..) -/
def gAbs : List V → Hp → VK → Prop
  | [.int i], H, Q => Q (.int (i.natAbs : Int)) H
  | _, _, _ => False
theorem call_gAbs : CallR X (.builtin "abs") gAbs := by
  intro pins s σ H xs us Q I r h
  unfold gAbs at h
  split at h
  · rename_i i
    refine call_abs pins s σ _ _ us Q I r ⟨i, rfl, ?_⟩
    have e : (if i < 0 then -i else i) = (i.natAbs : Int) := by split <;> omega
    rw [e]
    exact h
  · exact h.elim
def gInt : List V → Hp → VK → Prop
  | [.int i], H, Q => Q (.int i) H
  | [.bl k], H, Q => Q (.int (if k then 1 else 0)) H
  | _, _, _ => False
theorem call_gInt : CallR X (.type "int") gInt := by
  intro pins s σ H xs us Q I r h
  unfold gInt at h
  split at h
  · exact call_int1 pins s σ _ _ us Q I r (.inl ⟨_, rfl, h⟩)
  · exact call_int1 pins s σ _ _ us Q I r (.inr ⟨_, rfl, h⟩)
  · exact h.elim
end
end G
namespace G
open PySem PySem.Spec PyProof.Rows L2
open He (ga ma fAd Fa DefD SaysD)
/-! ## what the top has written, by names -/
/-- what isinstance asks of an error's class -/
def excB (K : PySem.W.Frag) (D : Addr) : Bool :=
  (decide (PySem.W.findIn K (.ref D) "__getattribute__" = some (some (.builtin "BaseException.__getattribute__"))) && (decide (PySem.W.findIn K (.ref D) "__getattr__" = some none) && (decide (PySem.W.subIn K (.ref D) (.type "BaseException") = some true) && PySem.W.hasDictIn K D))) &&
  (decide (PySem.W.findIn K (.ref D) "__class__" = some (some (.builtin "object.__class__"))) && (decide (PySem.W.specialIn K (.builtin "object.__class__") "__get__" = some (some (.builtin "getset_descriptor.__get__"))) &&
    (decide (PySem.W.takesIn K (.builtin "object.__class__") = some true) && decide (PySem.W.mroIn K D (.type "object") = some true))))
theorem excB_ok {K : PySem.W.Frag} {D : Addr} (h : excB K D = true) : ExcC K D := by
  obtain ⟨h1, h2⟩ := He.ba h
  obtain ⟨a1, h1⟩ := He.ba h1
  obtain ⟨a2, h1⟩ := He.ba h1
  obtain ⟨a3, a4⟩ := He.ba h1
  obtain ⟨b1, h2⟩ := He.ba h2
  obtain ⟨b2, h2⟩ := He.ba h2
  obtain ⟨b3, b4⟩ := He.ba h2
  exact ⟨of_decide_eq_true a1, of_decide_eq_true a2, of_decide_eq_true a3, a4, of_decide_eq_true b1, of_decide_eq_true b2, of_decide_eq_true b3, of_decide_eq_true b4⟩
/-- d is a class under c -/
def under (d c : Str) : Bool := d == c || c == "KeepError"
/-- a class of the module, no text -/
structure ClN (K : PySem.W.Frag) (C : Addr) : Prop where
  ha : PySem.W.findIn K (.ref C) "__class__" = some (some (.builtin "object.__class__"))
  hn : PySem.W.specialIn K (.builtin "object.__class__") "__get__" = some (some (.builtin "getset_descriptor.__get__"))
  htk : PySem.W.takesIn K (.builtin "object.__class__") = some true
  hm : PySem.W.mroIn K C (.type "object") = some true
  no : PySem.W.kitOne K (.ref C) (.type "str") = some false
def clB (K : PySem.W.Frag) (C : Addr) : Bool := (decide (PySem.W.findIn K (.ref C) "__class__" = some (some (.builtin "object.__class__"))) && (decide (PySem.W.specialIn K (.builtin "object.__class__") "__get__" = some (some (.builtin "getset_descriptor.__get__"))) &&
  (decide (PySem.W.takesIn K (.builtin "object.__class__") = some true) && (decide (PySem.W.mroIn K C (.type "object") = some true) && decide (PySem.W.kitOne K (.ref C) (.type "str") = some false)))))
theorem clB_ok {K : PySem.W.Frag} {C : Addr} (h : clB K C = true) : ClN K C := by
  obtain ⟨h1, h⟩ := He.ba h
  obtain ⟨h2, h⟩ := He.ba h
  obtain ⟨h3, h⟩ := He.ba h
  obtain ⟨h4, h5⟩ := He.ba h
  exact ⟨of_decide_eq_true h1, of_decide_eq_true h2, of_decide_eq_true h3, of_decide_eq_true h4, of_decide_eq_true h5⟩
structure XL where
  (ex cl : List Str)
/-- the errors' classes, and others -/
def exOk1 (L : List Str) (K : PySem.W.Frag) : Bool := L.all fun d => excB K (ga K d) && (decide (PySem.W.kitOne K (.ref (ga K d)) (.type "ValueError") = some true) &&
  (L.all fun c => decide (PySem.W.kitOne K (.ref (ga K d)) (.ref (ga K c)) = some (under d c)) && decide (PySem.W.exmOne K (.ref (ga K d)) (.ref (ga K c)) = some (under d c))))
def exOk (L : XL) (K : PySem.W.Frag) : Bool := exOk1 L.ex K && L.cl.all fun c => clB K (ga K c)
structure Told (fa : List Fa) (fn : List DefD) (xl : XL) (K : PySem.W.Frag) (mg : Str → Option Value) : Prop where
  ex : ∃ h : Heap, K.In h ∧ h.Ns mainGlobals mg
  says : SaysD fa fn K
  errs : exOk xl K = true
/-- what an object names, but for its class and the classes over it -/
def refsX (o : Obj) : List Addr := (match o.data with
  | .seq its _ => its.toList.flatMap He.refV
  | .dict es _ => es.toList.flatMap fun e => He.refV e.val
  | .func fd => He.refV fd.code ++ He.refV fd.defaults ++ He.refV fd.kwdefaults ++ fd.closure.map (·.2)
  | .cls cd => [cd.ns]
  | .fields vs => vs.toList.flatMap He.refV
  | .cell (some v) => He.refV v
  | _ => []) ++ match o.dict with
  | some d => [d]
  | none => []
def nextX (g : Addr → Option Obj) (as : List Addr) : List Addr := as.flatMap fun a => match g a with
  | some o => refsX o
  | none => []
/-- what the module's names lead to, level by level -/
def asX (g : Addr → Option Obj) : Nat → List Addr → List Addr
  | 0, as => as
  | n + 1, as => as ++ asX g n (nextX g as)
/-- the head's look -/
def lookG (n : Nat) (fa : List Fa) (fn : List DefD) (xl : XL) (g : Addr → Option Obj) : He.AlD × Bool := (He.obsD fa fn (He.frG g (asX g n [mainGlobals])), exOk xl (He.frG g (asX g n [mainGlobals])))
def hookG (n : Nat) (fa : List Fa) (fn : List DefD) (xl : XL) : PySem.W.Hook where
  α := He.AlD × Bool
  obs := fun s => lookG n fa fn xl s.heap.get?
  val := fun _ => (He.valD fn, true)
  says := fun _ h => ∃ K : PySem.W.Frag, K.In h ∧ SaysD fa fn K ∧ exOk xl K = true
  of := fun _ _ e => ⟨_, He.frG_in, congrArg (fun z : He.AlD × Bool => z.1) e, congrArg (fun z : He.AlD × Bool => z.2) e⟩
  keeps := fun _ _ _ ⟨K, hK, c⟩ k => ⟨K, PySem.W.Frag.In.keeps hK k, c⟩
theorem lookG_eq {n : Nat} {fa : List Fa} {fn : List DefD} {xl : XL} {g : Addr → Option Obj} {s : Shared} (h : ∀ a, g a = s.heap.get? a) : lookG n fa fn xl g = (hookG n fa fn xl).obs s := by
  have e : g = s.heap.get? := funext h
  rw [e]
  rfl
section
variable {fa : List Fa} {fn : List DefD} {xl : XL} {K : PySem.W.Frag} {mg : Str → Option Value}
theorem Told.glo (T : Told fa fn xl K mg) (i : Nat) {x : Str} (h : fa[i]? = some (.glo x) := by rfl) : mg x = some (.ref (ga K x)) := let ⟨_, X, N⟩ := T.ex; He.glo_ok X N (T.says.fact i h)
theorem Told.free (T : Told fa fn xl K mg) (i : Nat) {x : Str} (h : fa[i]? = some (.free x) := by rfl) : mg x = none := let ⟨_, X, N⟩ := T.ex; He.free_ok X N (T.says.fact i h)
theorem Told.num (T : Told fa fn xl K mg) (i : Nat) {x : Str} {n : Int} (h : fa[i]? = some (.int x n) := by rfl) : ∃ t, mg x = some (.int n t) := let ⟨_, X, N⟩ := T.ex; He.int_ok X N (T.says.fact i h)
theorem Told.txt (T : Told fa fn xl K mg) (i : Nat) {x z : Str} (h : fa[i]? = some (.str x z) := by rfl) : ∃ t, mg x = some (.str z t) := let ⟨_, X, N⟩ := T.ex; He.str_ok X N (T.says.fact i h)
theorem Told.err (T : Told fa fn xl K mg) {d : Str} (h : d ∈ xl.ex) : ExcC K (ga K d) ∧ PySem.W.kitOne K (.ref (ga K d)) (.type "ValueError") = some true ∧
    ∀ c ∈ xl.ex, PySem.W.kitOne K (.ref (ga K d)) (.ref (ga K c)) = some (under d c) ∧ PySem.W.exmOne K (.ref (ga K d)) (.ref (ga K c)) = some (under d c) := by
  obtain ⟨h1, h2⟩ := He.ba (List.all_eq_true.mp (He.ba T.errs).1 d h)
  obtain ⟨h3, h4⟩ := He.ba h2
  refine ⟨excB_ok h1, of_decide_eq_true h3, fun c hc => ?_⟩
  obtain ⟨h5, h6⟩ := He.ba (List.all_eq_true.mp h4 c hc)
  exact ⟨of_decide_eq_true h5, of_decide_eq_true h6⟩
theorem Told.cln (T : Told fa fn xl K mg) {c : Str} (h : c ∈ xl.cl) : ClN K (ga K c) := clB_ok (List.all_eq_true.mp (He.ba T.errs).2 c h)
/-- isinstance(e, c) of an error of class d -/
theorem Told.isE (T : Told fa fn xl K mg) {d c : Str} {a : Addr} {H : Hp} {Q : VK} (ha : H a = some (ExA (.ref (ga K d)) a)) (hd : d ∈ xl.ex) (hc : c ∈ xl.ex) (q : Q (.bl (under d c)) H) : gIsE K [.ref a, .ref (ga K c)] H Q :=
  ⟨_, _, _, ha, (T.err hd).1, .own _, ((T.err hd).2.2 c hc).1, q⟩
theorem Told.isY (T : Told fa fn xl K mg) {d c : Str} {a : Addr} {H : Hp} {Q : VK} (ha : H a = some (ExA (.ref (ga K d)) a)) (hd : d ∈ xl.ex) (hc : c ∈ xl.ex) (e : under d c = true) (q : Q (.bl true) H) : gIsE K [.ref a, .ref (ga K c)] H Q := T.isE ha hd hc (e ▸ q)
theorem Told.isN (T : Told fa fn xl K mg) {d c : Str} {a : Addr} {H : Hp} {Q : VK} (ha : H a = some (ExA (.ref (ga K d)) a)) (hd : d ∈ xl.ex) (hc : c ∈ xl.ex) (e : under d c = false) (q : Q (.bl false) H) : gIsE K [.ref a, .ref (ga K c)] H Q := T.isE ha hd hc (e ▸ q)
theorem Told.isV (T : Told fa fn xl K mg) {d : Str} {a : Addr} {H : Hp} {Q : VK} (ha : H a = some (ExA (.ref (ga K d)) a)) (hd : d ∈ xl.ex) (q : Q (.bl true) H) : gIsE K [.ref a, .ty "ValueError"] H Q :=
  ⟨_, _, _, ha, (T.err hd).1, .ty _, (T.err hd).2.1, q⟩
end
section
variable {fa : List Fa} {fn : List DefD} {xl : XL} {K : PySem.W.Frag} {mg : Str → Option Value}
/-- an error of class d reaches «except c», c over it -/
theorem Told.caught (T : Told fa fn xl K mg) {d c : Str} {i : Nat} {ts : TS} {Wo : WX} {D : Ends} {σ : L2.St} {H : Hp} (hd : d ∈ xl.ex) (hc : c ∈ xl.ex) (hu : under d c = true)
    (h : ∀ a, H a = none → ts { nx := fun σ' H' => D.nx (σ'.set i none) H', rt := D.rt, bk := fun σ' H' => D.bk (σ'.set i none) H', ct := fun σ' H' => D.ct (σ'.set i none) H' } (σ.set i (some (.ref a))) (upd H a (ExA (.ref (ga K d)) a))) :
    wTr K (.ref (ga K c)) i ts Wo D (.ref (ga K d)) none σ H :=
  ⟨true, by rw [((T.err hd).2.2 c hc).2, hu], fun _ => ⟨rfl, h⟩, fun z => by cases z⟩
end
/-- the function object at f -/
def fdAt (K : PySem.W.Frag) (f : Addr) : FuncData := match K.lookup f with
  | some ⟨_, _, .func fd, _⟩ => fd
  | _ => PySem.W.fnOf "" "" { posonlyargs := [], args := [], vararg := none, kwonlyargs := [], kw_defaults := [], kwarg := none, defaults := [] } [] { kind := .function, names := [], isGenerator := false, isCoroutine := false } .none .none .none .none none .none .none
theorem fdAt_of {K : PySem.W.Frag} {x qual : Str} {params : Arguments} {body : List Stmt} {scope : Scope} {dvs : List V} {kws : List (Str × V)} {f : Addr} {fd : FuncData} (F : FunD K x qual params body scope dvs kws f fd) : fd = fdAt K f := by
  obtain ⟨oc, od, dV, kV, doc, pm, an, cdv, ct, osl, rfl, lk, -⟩ := F.ex
  unfold fdAt
  rw [lk]
/-- every argument is given -/
def Bnd (fd : FuncData) (ps : List Str) : Prop := ∀ (s : Shared) (us : List Value), us.length = ps.length → BindsTo s fd ⟨us, []⟩ (ps.zip us)
theorem Bnd.to {K : PySem.W.Frag} {fd : FuncData} {ps : List Str} (b : Bnd fd ps) : Binds K fd ps [] := fun s us _ hl => by
  rw [List.append_nil] at hl ⊢
  exact b s us hl
/-- a def of the module: its promise sp -/
structure Fn (P : Program) (w : World) (K : PySem.W.Frag) (mg : Str → Option Value) (base : Heap) (k : Nat) (x : Str) (ps : List Str) (sp : Sp) : Prop where
  ok : FnOk P w K mg base (L2.CX P w) k (ga K x) (fdAt K (ga K x)) ps sp
  bd : Bnd (fdAt K (ga K x)) ps
  kp : PySem.W.keepIn K (.ref (ga K x)) = true
  at_ : mg x = some (.ref (ga K x))
/-- nothing is raised -/
theorem quiet {P : Program} {w : World} {K : PySem.W.Frag} {mg : Str → Option Value} {base : Heap} {k : Nat} {f : Addr} {fd : FuncData} {ps : List Str} {sp : Sp} (F : FnOk P w K mg base (L2.CX P w) k f fd ps sp) (h0 : ∀ vs H Q E, sp vs H Q E → sp vs H Q E0) : FnOk P w K mg base CX0 k f fd ps sp :=
  ⟨F.len, fun A outer s H args us vs Q E hr e0 hb r hsp => codeAny_mono (F.run A outer s H args us vs Q E0 hr e0 hb r (h0 _ _ _ _ hsp)) fun r s' hq => by
    cases r with
    | error e =>
      obtain ⟨_, _, _, _, _, _, _, _, _, _, _, _, y⟩ := hq
      exact y.elim
    | ok fl => cases fl with
      | ret u => exact hq
      | next => exact hq.elim
      | brk => exact hq.elim
      | cont => exact hq.elim⟩
/-- .. that may be called in an except suite, too -/
structure FnH (P : Program) (w : World) (K : PySem.W.Frag) (mg : Str → Option Value) (base : Heap) (k : Nat) (x : Str) (ps : List Str) (sp : Sp) : Prop where
  ok : FnN P w K mg base k (ga K x) (fdAt K (ga K x)) ps sp
  bd : Bnd (fdAt K (ga K x)) ps
  kp : PySem.W.keepIn K (.ref (ga K x)) = true
  at_ : mg x = some (.ref (ga K x))
section
variable {fa : List Fa} {fn : List DefD} {xl : XL} {P : Program} {w : World} {K : PySem.W.Frag} {mg : Str → Option Value} {base : Heap}
theorem Told.mkFn (T : Told fa fn xl K mg) (i j : Nat) {d : DefD} {x : Str} {N ps : List Str} {k : Nat} {sp : Sp} (hd : fn[i]? = some d) (hx : d.at_ = (x, none)) (h0 : d.dfl = []) (h1 : d.kwd = []) (hg : fa[j]? = some (.glo x)) (S : FnScope N ps d.scope)
    (bnd : ∀ (kV doc pm : Value) (an : Option Addr) (cdv ct : Value) (us : List Value), us.length = ps.length → bindArgs (PySem.W.fnOf d.name d.qual d.params d.body d.scope .none kV doc pm an cdv ct) ⟨us, []⟩ = pure (ps.zip us))
    (len : ∀ vs H Q E, sp vs H Q E → vs.length = ps.length)
    (body : ∀ (cdv : Value) (A : Around) (outer : List Env) (s : Shared) (H : Hp) (vs : List V) (Q : VK) (E : XK), Room k (A.deeper (envOfC d.qual d.scope s.heap.objs.size (ga K x) cdv)) → sp vs H Q E →
      ∃ t, PSs (cxOf (L2.CX P w) P w K mg base N d.qual d.scope (ga K x) cdv A outer s H E) d.body t ∧ t { nx := fun _ H' => Q .non H', rt := Q } (start N vs) H) : Fn P w K mg base (k + 1) x ps sp := by
  obtain ⟨fd, F⟩ := T.says.def_ i hd
  have e : fAd K d.at_ = ga K x := by rw [hx]; rfl
  have e0 : d.dvs K = [] := by unfold DefD.dvs; rw [h0]; rfl
  have e1 : d.kws K = [] := by unfold DefD.kws; rw [h1]; rfl
  rw [e, e0, e1] at F
  have ef := fdAt_of F
  subst ef
  exact ⟨F.ok S len body, F.bindsA bnd, F.kp, T.glo j hg⟩
theorem Told.mkFnH (T : Told fa fn xl K mg) (i j : Nat) {d : DefD} {x : Str} {N ps : List Str} {k : Nat} {sp : Sp} (hd : fn[i]? = some d) (hx : d.at_ = (x, none)) (h0 : d.dfl = []) (h1 : d.kwd = []) (hg : fa[j]? = some (.glo x)) (S : FnScope N ps d.scope)
    (bnd : ∀ (kV doc pm : Value) (an : Option Addr) (cdv ct : Value) (us : List Value), us.length = ps.length → bindArgs (PySem.W.fnOf d.name d.qual d.params d.body d.scope .none kV doc pm an cdv ct) ⟨us, []⟩ = pure (ps.zip us))
    (len : ∀ vs H Q E, sp vs H Q E → vs.length = ps.length)
    (body : ∀ (cdv : Value) (A : Around) (outer : List Env) (s : Shared) (H : Hp) (vs : List V) (Q : VK), RoomN k (A.deeper (envOfC d.qual d.scope s.heap.objs.size (ga K x) cdv)) → sp vs H Q E0 →
      ∃ t, PSs (cxN P w K mg base N d.qual d.scope (ga K x) cdv A outer s H) d.body t ∧ t { nx := fun _ H' => Q .non H', rt := Q } (start N vs) H) : FnH P w K mg base (k + 1) x ps sp := by
  obtain ⟨fd, F⟩ := T.says.def_ i hd
  have e : fAd K d.at_ = ga K x := by rw [hx]; rfl
  have e0 : d.dvs K = [] := by unfold DefD.dvs; rw [h0]; rfl
  have e1 : d.kws K = [] := by unfold DefD.kws; rw [h1]; rfl
  rw [e, e0, e1] at F
  have ef := fdAt_of F
  subst ef
  exact ⟨fn_ofN F S len body, F.bindsA bnd, F.kp, T.glo j hg⟩
end
section
variable {X : Cx} {k : Nat} {ps : List Str} {sp : Sp} {W : WX} {x : Str} {p pos : Pos} {e : Expr} {es : List Expr} {t : TA}
theorem pe_fn (tk : Takes X W) (F : Fn X.prog X.w X.K X.mg X.base k x ps sp) (hr : Room k X.A) (hg : Gl X x) (ha : PA X (e :: es) t) (hdb : (x == ("__debug__" : Str)) = false := by decide)
    (he : starEach (e :: es) X.env = (false, eval e X.env) :: starEach es X.env := by rfl) (hpl : (backTo pos (starEach es X.env)).any (·.1) = false := by rfl) : PE X (.Call (.Name x p) (e :: es) [] pos) (tCallW sp W t) := by
  exact pe_callW tk F.ok hr hg F.at_ F.kp F.bd.to ha hdb he hpl
theorem pe_fn0 (tk : Takes X W) (F : Fn X.prog X.w X.K X.mg X.base k x ps sp) (hr : Room k X.A) (hg : Gl X x) (hdb : (x == ("__debug__" : Str)) = false := by decide) : PE X (.Call (.Name x p) [] [] pos) (tCallW sp W tNil) := by
  exact pe_callW0 tk F.ok hr hg F.at_ F.kp F.bd.to hdb
theorem pe_fnH (F : FnH X.prog X.w X.K X.mg X.base k x ps sp) (hr : RoomN k X.A) (hg : Gl X x) (ha : PA X (e :: es) t) (hdb : (x == ("__debug__" : Str)) = false := by decide)
    (he : starEach (e :: es) X.env = (false, eval e X.env) :: starEach es X.env := by rfl) (hpl : (backTo pos (starEach es X.env)).any (·.1) = false := by rfl) : PE X (.Call (.Name x p) (e :: es) [] pos) (tCallN sp t) := by
  exact pe_callN F.ok hr hg F.at_ F.kp F.bd.to ha hdb he hpl
theorem call_gLen : CallR X (.builtin "len") (L2.rLen X.K) := call_len
theorem call_lenK {K : PySem.W.Frag} (hK : X.K = K) : CallR X (.builtin "len") (L2.rLen K) := hK ▸ call_len
theorem op_eqK {K : PySem.W.Frag} (hK : X.K = K) (hu : X.A.units + 64 < cLine) : OpR X (compareOp .Eq) (gEq K) := hK ▸ op_gEq hu
theorem op_neK {K : PySem.W.Frag} (hK : X.K = K) (hu : X.A.units + 64 < cLine) : OpR X (compareOp .NotEq) (gNe K) := hK ▸ op_gNe hu
theorem ix_seqK {K : PySem.W.Frag} (hK : X.K = K) : IxR X (rIx K) := hK ▸ ix_seq
theorem call_isEK {K : PySem.W.Frag} (hK : X.K = K) : CallR X (.builtin "isinstance") (gIsE K) := hK ▸ call_gIsE
theorem sl_listK {K : PySem.W.Frag} (hK : X.K = K) : SlR X (rSlL K) := hK ▸ sl_list
theorem pi_listK {K : PySem.W.Frag} {tg l : Expr} {tl : TE} (hK : X.K = K) (h : PE X l tl) : PI X tg l (iList K tl) := hK ▸ pi_list h
def rListG (K : PySem.W.Frag) : List V → Hp → VK → Prop := fun xs H Q => ∃ p ys, xs = [.ref p] ∧ (SqL K H p ys ∨ SqT K H p ys) ∧ ∀ l, H l = none → Q (.ref l) (upd H l (.lst ys))
theorem call_listK {K : PySem.W.Frag} (hK : X.K = K) : CallR X (.type "list") (rListG K) := hK ▸ call_list_of
theorem pe_clsK {K : PySem.W.Frag} (hK : X.K = K) (h : X.mg x = some (.ref (ga K x))) (hg : Gl X x) (hdb : (x == ("__debug__" : Str)) = false := by decide) : PE X (.Name x pos) (tC (.ref (ga K x))) := pe_glob hg h rfl hdb
/-- a constant of the module -/
theorem pe_num {n : Int} (h : ∃ t, X.mg x = some (.int n t)) (hg : Gl X x) (hdb : (x == ("__debug__" : Str)) = false := by decide) : PE X (.Name x pos) (tC (.int n)) := by
  obtain ⟨t, e⟩ := h
  exact pe_glob hg e ⟨t, rfl⟩ hdb
theorem pe_txt {z : Str} (h : ∃ t, X.mg x = some (.str z t)) (hg : Gl X x) (hdb : (x == ("__debug__" : Str)) = false := by decide) : PE X (.Name x pos) (tC (.str z)) := by
  obtain ⟨t, e⟩ := h
  exact pe_glob hg e ⟨t, rfl⟩ hdb
/-- a class of the module as a value; a built-in class -/
theorem pe_cls (h : X.mg x = some (.ref (ga X.K x))) (hg : Gl X x) (hdb : (x == ("__debug__" : Str)) = false := by decide) : PE X (.Name x pos) (tC (.ref (ga X.K x))) := pe_glob hg h rfl hdb
theorem pe_ty {T : String} (hm : X.mg x = none) (hv : bootBuiltins x = some (.type T)) (hg : Gl X x) (hn : x ≠ "__name__" := by decide) (hdb : (x == ("__debug__" : Str)) = false := by decide) : PE X (.Name x pos) (tC (.ty T)) := pe_bltn hg hm hv rfl hn hdb
/-- raise C('..') -/
def tRaise (C : Addr) (W : WX) : TS := fun _ σ H => W (.ref C) none σ H
theorem ps_raiseK {K : PySem.W.Frag} {m : Str} {j : Nat} {p2 pos2 : Pos} (hK : X.K = K) (hc : X.calm = true) (tk : Takes X W) (h : (Fa.exc x).ok K = true) (hm : X.mg x = some (.ref (ga K x))) (hg : Gl X x) (hdb : (x == ("__debug__" : Str)) = false := by decide) :
    PS X (.Raise (some (.Call (.Name x p) [.Constant (.str m) j p2] [] pos)) none pos2) (tRaise (ga K x) W) := by
  subst hK
  obtain ⟨h1, h2, h3, h4⟩ := He.exc_ok h
  exact ps_raise hc tk (pmk_own PySem.F.excBase_ValueError h1 hm h2 (raises_own h3 h4) hg hdb)
theorem ps_raiseW {m : Str} {j : Nat} {p2 pos2 : Pos} (hc : X.calm = true) (tk : Takes X W) (h : (Fa.exc x).ok X.K = true) (hm : X.mg x = some (.ref (ga X.K x))) (hg : Gl X x) (hdb : (x == ("__debug__" : Str)) = false := by decide) :
    PS X (.Raise (some (.Call (.Name x p) [.Constant (.str m) j p2] [] pos)) none pos2) (tRaise (ga X.K x) W) := by
  obtain ⟨h1, h2, h3, h4⟩ := He.exc_ok h
  exact ps_raise hc tk (pmk_own PySem.F.excBase_ValueError h1 hm h2 (raises_own h3 h4) hg hdb)
end

/-! ## readings, step by step -/
section
variable {σ : L2.St} {H : Hp} {Q : VK} {QT : Bool → Hp → Prop} {QA : List V → Hp → Prop} {D : Ends} {v x y z : V} {i : Nat} {o : Option V} {ta tb te tc : TE} {t u c : TT} {ts us : TS} {as : TA} {r r' : R2} {g : TG} {b : Bool}
theorem x_K {CX : CXT} {P : Program} {w : World} {K : PySem.W.Frag} {mg : Str → Option Value} {base : Heap} {N : List Str} {qual : Str} {scope : Scope} {f : Addr} {cd : Value} {A : Around} {outer : List Env} {s : Shared} {E : XK} : (cxOf CX P w K mg base N qual scope f cd A outer s H E).K = K := rfl
theorem x_var0 : tVar 0 (some v :: σ) H Q = Q v H := propext ⟨fun ⟨_, e, q⟩ => by cases e; exact q, fun q => ⟨v, rfl, q⟩⟩
theorem x_varS : tVar (i + 1) (o :: σ) H Q = tVar i σ H Q := rfl
theorem x_c : tC v σ H Q = Q v H := rfl
theorem x_op : tOp r ta tb σ H Q = ta σ H fun x H1 => tb σ H1 fun y H2 => r x y H2 Q := rfl
theorem x_un {r : V → Hp → VK → Prop} : tUn r ta σ H Q = ta σ H fun x H1 => r x H1 Q := rfl
theorem x_cb {r : List V → Hp → VK → Prop} : tCB r as σ H Q = as σ H fun vs H1 => r vs H1 Q := rfl
theorem x_nil : tNil σ H QA = QA [] H := rfl
theorem x_cons : tCons te as σ H QA = te σ H fun x H1 => as σ H1 fun xs H2 => QA (x :: xs) H2 := rfl
theorem x_test : tTest te σ H QT = te σ H fun x H1 => ∃ k, x = .bl k ∧ QT k H1 := rfl
theorem x_b : tB te σ H QT = te σ H fun x H1 => ∃ k, x = .bl k ∧ QT k H1 := rfl
theorem x_ex {P : Bool → Prop} : (∃ k, V.bl b = .bl k ∧ P k) = P b := propext ⟨fun ⟨_, e, q⟩ => by cases e; exact q, fun q => ⟨b, rfl, q⟩⟩
theorem x_and : tAnd t u σ H QT = t σ H fun c H1 => if c = true then u σ H1 QT else QT false H1 := rfl
theorem x_or : tOr t u σ H QT = t σ H fun c H1 => if c = true then QT true H1 else u σ H1 QT := rfl
theorem x_not : tNot t σ H QT = t σ H fun c H1 => QT (!c) H1 := rfl
theorem x_andV : tAndV ta tb σ H Q = ta σ H fun x H1 => ∃ c, x = .bl c ∧ if c = true then tb σ H1 Q else Q (.bl false) H1 := rfl
theorem x_orV : tOrV ta tb σ H Q = ta σ H fun x H1 => ∃ c, x = .bl c ∧ if c = true then Q (.bl true) H1 else tb σ H1 Q := rfl
theorem x_notV : tNotV ta σ H Q = ta σ H fun x H1 => ∃ c, x = .bl c ∧ Q (.bl (!c)) H1 := rfl
theorem x_tif : tIf t ta tb σ H Q = t σ H fun c H1 => if c = true then ta σ H1 Q else tb σ H1 Q := rfl
theorem x_chain : tChain r r' ta tb tc σ H Q = ta σ H fun x H1 => tb σ H1 fun y H2 => r x y H2 fun z H3 => ∃ k, z = .bl k ∧ (if k = true then tc σ H3 fun u H4 => r' y u H4 Q else Q (.bl false) H3) := rfl
theorem x_menu : tMenu as te σ H Q = as σ H fun xs H1 => xs.length ≤ sizeLine ∧ te σ H1 fun y H2 => ∃ i v, y = .int i ∧ atI xs i = some v ∧ Q v H2 := rfl
theorem x_menuI {xs : List V} {n : Int} {P : V → Prop} : (∃ i v, V.int n = .int i ∧ atI xs i = some v ∧ P v) = ∃ v, atI xs n = some v ∧ P v := propext ⟨fun ⟨_, w, e, q⟩ => by cases e; exact ⟨w, q⟩, fun ⟨w, q⟩ => ⟨n, w, rfl, q⟩⟩
theorem x_lst : tLst as σ H Q = as σ H fun xs H1 => xs.length ≤ sizeLine ∧ ∀ p, H1 p = none → Q (.ref p) (upd H1 p (.lst xs)) := rfl
theorem x_tup : tTup as σ H Q = as σ H fun xs H1 => xs.length ≤ sizeLine ∧ ∀ p, H1 p = none → Q (.ref p) (upd H1 p (.tup xs)) := rfl
theorem x_dnew : tDNewK σ H Q = ∀ p, H p = none → Q (.ref p) (upd H p (.dK [])) := rfl
theorem x_callW {sp : Sp} {W : WX} : tCallW sp W as σ H Q = as σ H fun vs H1 => sp vs H1 Q fun c d H2 => W c d σ H2 := rfl
theorem x_callN {sp : Sp} : tCallN sp as σ H Q = as σ H fun vs H1 => sp vs H1 Q E0 := rfl
theorem x_seq : tSeq ts us D σ H = ts { D with nx := us D } σ H := rfl
theorem x_next : tNext D σ H = D.nx σ H := rfl
theorem x_ret : tRet te D σ H = te σ H D.rt := rfl
theorem x_retN : tRetN D σ H = D.rt .non H := rfl
theorem x_drop : tDrop te D σ H = te σ H fun _ H1 => D.nx σ H1 := rfl
theorem x_ifS : tIfS c ts us D σ H = c σ H fun b H1 => if b = true then ts D σ H1 else us D σ H1 := rfl
theorem x_asg : tAsg te g D σ H = te σ H fun x H1 => g x σ H1 D.nx := rfl
theorem x_name {N : L2.St → Hp → Prop} : gName i v σ H N = N (σ.set i (some v)) H := rfl
theorem x_raise {C : Addr} {W : WX} : tRaise C W D σ H = W (.ref C) none σ H := rfl
theorem x_start {N : List Str} {n : Str} {vs : List V} : start (n :: N) (v :: vs) = some v :: start N vs := by
  unfold L2.start
  simp only [List.map_cons, List.length_cons, List.cons_append, Nat.add_sub_add_right]
theorem x_start0 {N : List Str} : start N [] = List.replicate N.length none := by
  unfold L2.start
  simp
theorem q_str {a b : Str} (q : Q (.str a) H) (e : a = b) : Q (.str b) H := e ▸ q
theorem r_i0 {g : Int → Int → V} {a b : Int} : rI0 g (.int a) (.int b) H Q = Q (g a b) H := propext ⟨fun ⟨_, _, e, e', q⟩ => by cases e; cases e'; exact q, fun q => ⟨a, b, rfl, rfl, q⟩⟩
theorem r_i {C : Int → Int → Prop} {g : Int → Int → V} {a b : Int} : rI C g (.int a) (.int b) H Q = (C a b ∧ Q (g a b) H) := propext ⟨fun ⟨_, _, e, e', q⟩ => by cases e; cases e'; exact q, fun q => ⟨a, b, rfl, rfl, q⟩⟩
theorem r_u {g : Int → V} {a : Int} : rU g (.int a) H Q = Q (g a) H := propext ⟨fun ⟨_, e, q⟩ => by cases e; exact q, fun q => ⟨a, rfl, q⟩⟩
theorem r_addI {a b : Int} : gAdd (.int a) (.int b) H Q = Q (.int (a + b)) H := rfl
theorem r_addS {a b : Str} : gAdd (.str a) (.str b) H Q = (a.length + b.length ≤ sizeLine ∧ Q (.str (a ++ b)) H) := rfl
theorem r_mulI {a b : Int} : gMul (.int a) (.int b) H Q = (((-(2 ^ 64) < a ∧ a < 2 ^ 64) ∨ (-(2 ^ 64) < b ∧ b < 2 ^ 64)) ∧ Q (.int (a * b)) H) := rfl
theorem r_mulS {a : Str} {b : Int} : gMul (.str a) (.int b) H Q = ((b = 0 ∨ b = 1) ∧ Q (.str (if b = 1 then a else Str.empty)) H) := rfl
theorem r_eqI {K : PySem.W.Frag} {a b : Int} : gEq K (.int a) (.int b) H Q = Q (.bl (decide (a = b))) H := by
  show (if true = true then Q (.bl (a == b)) H else rEqD K (.int a) (.int b) H Q) = _
  rw [if_pos (rfl : true = true), Bool.beq_eq_decide_eq]
theorem r_neI {K : PySem.W.Frag} {a b : Int} : gNe K (.int a) (.int b) H Q = Q (.bl (!decide (a = b))) H := by
  show (if true = true then Q (.bl (!(a == b))) H else rNeD K (.int a) (.int b) H Q) = _
  rw [if_pos (rfl : true = true), Bool.beq_eq_decide_eq]
theorem r_eqF {K : PySem.W.Frag} (hx : flatV x = true) (hy : flatV y = true) : gEq K x y H Q = Q (.bl (eqV x y)) H := by unfold gEq; rw [hx, hy]; rfl
theorem r_neF {K : PySem.W.Frag} (hx : flatV x = true) (hy : flatV y = true) : gNe K x y H Q = Q (.bl (!eqV x y)) H := by unfold gNe; rw [hx, hy]; rfl
theorem r_eqS {K : PySem.W.Frag} {a b : Str} : gEq K (.str a) (.str b) H Q = Q (.bl (decide (a = b))) H := by
  show (if true = true then Q (.bl (a == b)) H else rEqD K (.str a) (.str b) H Q) = _
  rw [if_pos (rfl : true = true), Bool.beq_eq_decide_eq]
theorem r_neS {K : PySem.W.Frag} {a b : Str} : gNe K (.str a) (.str b) H Q = Q (.bl (!decide (a = b))) H := by
  show (if true = true then Q (.bl (!(a == b))) H else rNeD K (.str a) (.str b) H Q) = _
  rw [if_pos (rfl : true = true), Bool.beq_eq_decide_eq]
theorem n_ten : Int.natAbs 10 < 18446744073709551616 := by decide
theorem c_div {i j : Int} : CDiv i j = (0 < j ∧ j < 1073741824) := rfl
theorem c_pow {i j : Int} : CPow i j = (0 ≤ j ∧ j ≤ 1000000 ∧ i.natAbs < 2 ^ 64) := rfl
theorem r_absI {a : Int} : gAbs [.int a] H Q = Q (.int (a.natAbs : Int)) H := rfl
theorem r_intI {a : Int} : gInt [.int a] H Q = Q (.int a) H := rfl
theorem r_intB {k : Bool} : gInt [.bl k] H Q = Q (.int (if k then 1 else 0)) H := rfl
theorem r_lenL {K : PySem.W.Frag} {a : Addr} {xs : List V} (h : H a = some (.lst xs)) (q : Q (.int (xs.length : Int)) H) : L2.rLen K [.ref a] H Q := ⟨_, _, rfl, .inl ⟨_, SqL.of h, rfl⟩, q⟩
end
end G
namespace G
open PySem PySem.Spec PyProof.Rows L2
open He (ga ma fAd Fa DefD SaysD)
/-! ## classes of the module: fields, methods, instances -/
section
variable {fa : List Fa} {fn : List DefD} {xl : XL} {K : PySem.W.Frag} {mg : Str → Option Value}
theorem Told.cls (T : Told fa fn xl K mg) (i : Nat) {x : Str} (h : fa[i]? = some (.cls x) := by rfl) : Cls K (ga K x) := He.cls_ok (T.says.fact i h)
theorem Told.noat (T : Told fa fn xl K mg) (i : Nat) {x f : Str} (h : fa[i]? = some (.noat x f) := by rfl) : NoAttr K (ga K x) f := He.noat_ok (T.says.fact i h)
end
/-- x holds v in its field f, an instance of the class at C -/
def FldIs (C : Addr) (f : Str) (x : V) (H : Hp) (v : V) : Prop := ∃ a dx fs, x = .ref a ∧ H a = some (.ins C dx fs) ∧ fs.lookup f = some v
theorem fldIs {C : Addr} {f : Str} {a dx : Addr} {H : Hp} {fs : List (Str × V)} {v : V} (h : H a = some (.ins C dx fs)) (e : fs.lookup f = some v := by rfl) : FldIs C f (.ref a) H v := ⟨a, dx, fs, rfl, h, e⟩
def gFld (C : Addr) (ta : TE) (f : Str) : TE := fun σ H Q => ta σ H fun x H1 => ∃ v, FldIs C f x H1 v ∧ Q v H1
def gSetF (C : Addr) (ta tv : TE) (f : Str) : TS := fun D σ H => tv σ H fun y H1 => ta σ H1 fun x H2 => ∃ a dx fs, x = .ref a ∧ H2 a = some (.ins C dx fs) ∧ fs.length < 1000 ∧ D.nx σ (upd H2 a (.ins C dx (putF f y fs)))
section
variable {X : Cx} {C : Addr} {o e value : Expr} {f : Str} {pos pos' : Pos} {ta tv : TE}
theorem pe_fldC (c : Cls X.K C) (n : NoAttr X.K C f) (he : PE X e ta) (hb : attributeBase e f X.env (eval e X.env) = eval e X.env := by rfl) : PE X (.Attribute e f pos) (gFld C ta f) := by
  refine ⟨fun pins s σ H Q I h => attr_of hb (thn (he.run pins s σ H _ I h) fun u s1 hh => ?_)⟩
  obtain ⟨x, H1, I1, rx, v, ⟨a, dx, fs, ex, ea, l⟩, q⟩ := hh
  subst ex
  obtain rfl : u = Value.ref a := rx
  exact getattr_ok I1 ea c n l fun _ _ I2 ru => ⟨v, H1, I2, ru, q⟩
theorem ps_fldC (c : Cls X.K C) (n : NoAttr X.K C f) (ha : PE X o ta) (hv : PE X value tv) (hs : swapsWith value (some (.Attribute o f pos')) pos.line X.env = pure false := by rfl) : PS X (.Assign [.Attribute o f pos'] value pos) (gSetF C ta tv f) := by
  refine ⟨fun pins s σ H D I h => plainObj_wpAny_Assign_Attribute (thn (hv.run pins s σ H _ I h) fun u s1 hh => ?_) hs⟩
  obtain ⟨y, H1, I1, ry, q⟩ := hh
  refine thn (ha.run pins s1 σ H1 _ I1 q) fun ov s2 h2 => ?_
  obtain ⟨x, H2, I2, rx, a, dx, fs, ex, ea, l, q2⟩ := h2
  subst ex
  obtain rfl : ov = Value.ref a := rx
  exact setattr_ok I2 ea c n l ry fun _ I3 => ⟨σ, _, I3, q2⟩
end
/-- a method of a class of the module: its promise -/
structure Mt (P : Program) (w : World) (K : PySem.W.Frag) (mg : Str → Option Value) (base : Heap) (k : Nat) (C m : Str) (ps : List Str) (sp : Sp) : Prop where
  ok : FnOk P w K mg base (L2.CX P w) k (ma K (ga K C) m) (fdAt K (ma K (ga K C) m)) ps sp
  bd : Bnd (fdAt K (ma K (ga K C) m)) ps
  me : Meth K (ga K C) m (ma K (ga K C) m)
  cl : Cls K (ga K C)
/-- the __init__ of a class -/
structure Mi (P : Program) (w : World) (K : PySem.W.Frag) (mg : Str → Option Value) (base : Heap) (k : Nat) (C : Str) (ps : List Str) (sp : Sp) : Prop where
  ok : FnOk P w K mg base (L2.CX P w) k (ma K (ga K C) "__init__") (fdAt K (ma K (ga K C) "__init__")) ps sp
  bd : Bnd (fdAt K (ma K (ga K C) "__init__")) ps
  mkr : Mk K (ga K C) (ma K (ga K C) "__init__")
  at_ : mg C = some (.ref (ga K C))
section
variable {fa : List Fa} {fn : List DefD} {xl : XL} {P : Program} {w : World} {K : PySem.W.Frag} {mg : Str → Option Value} {base : Heap}
theorem Told.mkAny (T : Told fa fn xl K mg) (i : Nat) {d : DefD} {f : Addr} {N ps : List Str} {k : Nat} {sp : Sp} (hd : fn[i]? = some d) (hx : fAd K d.at_ = f) (h0 : d.dfl = []) (h1 : d.kwd = []) (S : FnScope N ps d.scope)
    (bnd : ∀ (kV doc pm : Value) (an : Option Addr) (cdv ct : Value) (us : List Value), us.length = ps.length → bindArgs (PySem.W.fnOf d.name d.qual d.params d.body d.scope .none kV doc pm an cdv ct) ⟨us, []⟩ = pure (ps.zip us))
    (len : ∀ vs H Q E, sp vs H Q E → vs.length = ps.length)
    (body : ∀ (cdv : Value) (A : Around) (outer : List Env) (s : Shared) (H : Hp) (vs : List V) (Q : VK) (E : XK), Room k (A.deeper (envOfC d.qual d.scope s.heap.objs.size f cdv)) → sp vs H Q E →
      ∃ t, PSs (cxOf (L2.CX P w) P w K mg base N d.qual d.scope f cdv A outer s H E) d.body t ∧ t { nx := fun _ H' => Q .non H', rt := Q } (start N vs) H) : FnOk P w K mg base (L2.CX P w) (k + 1) f (fdAt K f) ps sp ∧ Bnd (fdAt K f) ps := by
  obtain ⟨fd, F⟩ := T.says.def_ i hd
  have e0 : d.dvs K = [] := by unfold DefD.dvs; rw [h0]; rfl
  have e1 : d.kws K = [] := by unfold DefD.kws; rw [h1]; rfl
  rw [hx, e0, e1] at F
  have ef := fdAt_of F
  subst ef
  exact ⟨F.ok S len body, F.bindsA bnd⟩
theorem Told.mkMt (T : Told fa fn xl K mg) (i j l : Nat) {d : DefD} {C m : Str} {N ps : List Str} {k : Nat} {sp : Sp} (hd : fn[i]? = some d) (hx : d.at_ = (C, some m)) (h0 : d.dfl = []) (h1 : d.kwd = []) (hg : fa[j]? = some (.meth C m)) (hc : fa[l]? = some (.cls C)) (S : FnScope N ps d.scope)
    (bnd : ∀ (kV doc pm : Value) (an : Option Addr) (cdv ct : Value) (us : List Value), us.length = ps.length → bindArgs (PySem.W.fnOf d.name d.qual d.params d.body d.scope .none kV doc pm an cdv ct) ⟨us, []⟩ = pure (ps.zip us))
    (len : ∀ vs H Q E, sp vs H Q E → vs.length = ps.length)
    (body : ∀ (cdv : Value) (A : Around) (outer : List Env) (s : Shared) (H : Hp) (vs : List V) (Q : VK) (E : XK), Room k (A.deeper (envOfC d.qual d.scope s.heap.objs.size (ma K (ga K C) m) cdv)) → sp vs H Q E →
      ∃ t, PSs (cxOf (L2.CX P w) P w K mg base N d.qual d.scope (ma K (ga K C) m) cdv A outer s H E) d.body t ∧ t { nx := fun _ H' => Q .non H', rt := Q } (start N vs) H) : Mt P w K mg base (k + 1) C m ps sp := by
  obtain ⟨a, b⟩ := T.mkAny (P := P) (w := w) (base := base) i hd (by rw [hx]; rfl) h0 h1 S bnd len body
  exact ⟨a, b, He.meth_ok (T.says.fact j hg), T.cls l hc⟩
theorem Told.mkMi (T : Told fa fn xl K mg) (i j l : Nat) {d : DefD} {C : Str} {N ps : List Str} {k : Nat} {sp : Sp} (hd : fn[i]? = some d) (hx : d.at_ = (C, some ("__init__" : Str))) (h0 : d.dfl = []) (h1 : d.kwd = []) (hg : fa[j]? = some (.mkr C)) (hc : fa[l]? = some (.glo C)) (S : FnScope N ps d.scope)
    (bnd : ∀ (kV doc pm : Value) (an : Option Addr) (cdv ct : Value) (us : List Value), us.length = ps.length → bindArgs (PySem.W.fnOf d.name d.qual d.params d.body d.scope .none kV doc pm an cdv ct) ⟨us, []⟩ = pure (ps.zip us))
    (len : ∀ vs H Q E, sp vs H Q E → vs.length = ps.length)
    (body : ∀ (cdv : Value) (A : Around) (outer : List Env) (s : Shared) (H : Hp) (vs : List V) (Q : VK) (E : XK), Room k (A.deeper (envOfC d.qual d.scope s.heap.objs.size (ma K (ga K C) "__init__") cdv)) → sp vs H Q E →
      ∃ t, PSs (cxOf (L2.CX P w) P w K mg base N d.qual d.scope (ma K (ga K C) "__init__") cdv A outer s H E) d.body t ∧ t { nx := fun _ H' => Q .non H', rt := Q } (start N vs) H) : Mi P w K mg base (k + 1) C ps sp := by
  obtain ⟨a, b⟩ := T.mkAny (P := P) (w := w) (base := base) i hd (by rw [hx]; rfl) h0 h1 S bnd len body
  exact ⟨a, b, He.mkr_ok (T.says.fact j hg), T.glo l hc⟩
end
/-- x is an instance of the class at C, its attributes none of the name m -/
def Recv (C : Addr) (m : Str) (x : V) (H : Hp) : Prop := ∃ a dx fs, x = .ref a ∧ H a = some (.ins C dx fs) ∧ fs.lookup m = none
theorem recv {C : Addr} {m : Str} {a dx : Addr} {H : Hp} {fs : List (Str × V)} (h : H a = some (.ins C dx fs)) (e : fs.lookup m = none := by rfl) : Recv C m (.ref a) H := ⟨a, dx, fs, rfl, h, e⟩
section
variable {X : Cx} {k : Nat} {C m : Str} {ps : List Str} {sp : Sp} {W : WX} {p pos apos : Pos} {o e : Expr} {es : List Expr} {ta : TE} {t : TA}
def gMeth (C : Addr) (m : Str) (sp : Sp) (W : WX) (ta : TE) (t : TA) : TE := fun σ H Q => ta σ H fun x H1 => Recv C m x H1 ∧ t σ H1 fun vs H2 => sp (x :: vs) H2 Q fun c d H3 => W c d σ H3
theorem pe_mt {pl : Sem Bool} {K : PySem.W.Frag} (hK : X.K = K) (tk : Takes X W) (he : PE X o ta) (F : Mt X.prog X.w K X.mg X.base k C m ps sp) (hr : Room k X.A) (ha : PA X (e :: es) t)
    (hst : starEach (e :: es) X.env = (false, eval e X.env) :: starEach es X.env := by rfl) (hpl : (backTo pos (starEach es X.env)).any (·.1) = false := by rfl)
    (ht : eval (.Call (.Attribute o m apos) (e :: es) [] pos) X.env = (do
      let z ← eval o X.env
      standAt apos.atName
      let (g, one) ← holding [z] (getMethod z m pl)
      callWith pos g one (backTo pos (starEach (e :: es) X.env)) (backToKw pos (keywordEach [] X.env))) := by rfl) :
    PE X (.Call (.Attribute o m apos) (e :: es) [] pos) (gMeth (ga K C) m sp W ta t) := by
  subst hK
  refine ⟨fun pins s σ H Q I h => ?_⟩
  refine PySem.W.methodCall_KW (pl := pl) (thn (he.run pins s σ H _ I h) fun u s1 hh => ?_) ht
  obtain ⟨y, H1, I1, ry, ⟨a, dx, fs, ey, ea, l⟩, q⟩ := hh
  subst ey
  obtain rfl : u = Value.ref a := ry
  refine getmeth_ok I1 ea F.cl F.me l ?_
  refine PySem.W.callWith_K (first := [.ref a]) (h₀ := X.base) I.ok.mod.kin F.me.kp (thn (ha.run pos pins s1 σ H1 _ I1 q) fun us s2 h2 => ?_) hst hpl
  obtain ⟨vs, H2, I2, r, q2⟩ := h2
  exact ⟨I2.kIn, run_fnS (us := .ref a :: us) (vs := .ref a :: vs) (E := WE W) F.ok hr F.bd.to (passAt tk σ) I2 (.cons rfl r) q2⟩
theorem pe_mt0 {pl : Sem Bool} {K : PySem.W.Frag} (hK : X.K = K) (tk : Takes X W) (he : PE X o ta) (F : Mt X.prog X.w K X.mg X.base k C m ps sp) (hr : Room k X.A)
    (ht : eval (.Call (.Attribute o m apos) [] [] pos) X.env = (do
      let z ← eval o X.env
      standAt apos.atName
      let (g, one) ← holding [z] (getMethod z m pl)
      callWith pos g one (backTo pos (starEach [] X.env)) (backToKw pos (keywordEach [] X.env))) := by rfl) :
    PE X (.Call (.Attribute o m apos) [] [] pos) (gMeth (ga K C) m sp W ta tNil) := by
  subst hK
  refine ⟨fun pins s σ H Q I h => ?_⟩
  refine PySem.W.methodCall_KW (pl := pl) (thn (he.run pins s σ H _ I h) fun u s1 hh => ?_) ht
  obtain ⟨y, H1, I1, ry, ⟨a, dx, fs, ey, ea, l⟩, q⟩ := hh
  subst ey
  obtain rfl : u = Value.ref a := ry
  refine getmeth_ok I1 ea F.cl F.me l ?_
  exact PySem.W.callWith_K0 (first := [.ref a]) I1.kIn F.me.kp (run_fnS (us := [.ref a]) (vs := [.ref a]) (E := WE W) F.ok hr F.bd.to (passAt tk σ) I1 (.cons rfl .nil) q)
theorem pe_mk {K : PySem.W.Frag} (hK : X.K = K) (tk : Takes X W) (F : Mi X.prog X.w K X.mg X.base k C ps sp) (hr : Room (k + 1) X.A) (hg : Gl X C) (ha : PA X (e :: es) t) (hdb : (C == ("__debug__" : Str)) = false := by decide)
    (he : starEach (e :: es) X.env = (false, eval e X.env) :: starEach es X.env := by rfl) (hpl : (backTo pos (starEach es X.env)).any (·.1) = false := by rfl) : PE X (.Call (.Name C p) (e :: es) [] pos) (tMakeW (ga K C) sp W t) := by
  subst hK
  exact pe_makeW tk F.mkr F.ok hr hg F.at_ F.bd.to ha hdb he hpl
theorem pe_mk0 {K : PySem.W.Frag} (hK : X.K = K) (tk : Takes X W) (F : Mi X.prog X.w K X.mg X.base k C ps sp) (hr : Room (k + 1) X.A) (hg : Gl X C) (hdb : (C == ("__debug__" : Str)) = false := by decide) : PE X (.Call (.Name C p) [] [] pos) (tMakeW (ga K C) sp W tNil) := by
  subst hK
  exact pe_makeW0 tk F.mkr F.ok hr hg F.at_ F.bd.to hdb
/-- least, greatest of two -/
def gMin : List V → Hp → VK → Prop
  | [.int i, .int j], H, Q => Q (.int (min i j)) H
  | _, _, _ => False
def gMax : List V → Hp → VK → Prop
  | [.int i, .int j], H, Q => Q (.int (max i j)) H
  | _, _, _ => False
theorem call_gMin (hc : X.calm = true) : CallR X (.builtin "min") gMin := by
  intro pins s σ H xs us Q I r h
  unfold gMin at h
  split at h
  · rename_i i j
    refine call_min2 hc pins s σ _ _ us Q I r ⟨i, j, rfl, ?_⟩
    have e : (if j < i then j else i) = min i j := by split <;> omega
    rw [e]
    exact h
  · exact h.elim
theorem call_gMax (hc : X.calm = true) : CallR X (.builtin "max") gMax := by
  intro pins s σ H xs us Q I r h
  unfold gMax at h
  split at h
  · rename_i i j
    refine call_max2 hc pins s σ _ _ us Q I r ⟨i, j, rfl, ?_⟩
    have e : (if j > i then j else i) = max i j := by split <;> omega
    rw [e]
    exact h
  · exact h.elim
end
section
variable {σ : L2.St} {H : Hp} {Q : VK} {D : Ends} {C : Addr} {f m : Str} {ta tv : TE} {as : TA} {sp : Sp} {W : WX} {a b : Int} {y x i : V} {S : TSet}
theorem x_fld : gFld C ta f σ H Q = ta σ H fun x H1 => ∃ v, FldIs C f x H1 v ∧ Q v H1 := rfl
theorem x_setF : gSetF C ta tv f D σ H = tv σ H fun y H1 => ta σ H1 fun x H2 => ∃ a dx fs, x = .ref a ∧ H2 a = some (.ins C dx fs) ∧ fs.length < 1000 ∧ D.nx σ (upd H2 a (.ins C dx (putF f y fs))) := rfl
theorem x_meth : gMeth C m sp W ta as σ H Q = ta σ H fun x H1 => Recv C m x H1 ∧ as σ H1 fun vs H2 => sp (x :: vs) H2 Q fun c d H3 => W c d σ H3 := rfl
theorem x_make : tMakeW C sp W as σ H Q = as σ H fun vs H1 => ∀ x dx, H1 x = none → H1 dx = none → dx ≠ x → sp (.ref x :: vs) (upd (upd H1 dx (.own x)) x (.ins C dx [])) (fun v H2 => v = .non ∧ Q (.ref x) H2) fun c d H3 => W c d σ H3 := rfl
theorem x_sub {to ti : TE} {N : L2.St → Hp → Prop} : gSub to ti S y σ H N = to σ H fun o H1 => ti σ H1 fun i H2 => S o i y H2 fun H3 => N σ H3 := rfl
theorem r_min : gMin [.int a, .int b] H Q = Q (.int (min a b)) H := rfl
theorem r_max : gMax [.int a, .int b] H Q = Q (.int (max a b)) H := rfl
/-- a store to a list at i -/
theorem r_setL {p : Addr} {xs : List V} {k : Int} {N : Hp → Prop} (h : H p = some (.lst xs)) (h0 : 0 ≤ k) (h1 : k < xs.length) (q : N (upd H p (.lst (xs.set k.toNat y)))) : rSetL (.ref p) (.int k) y H N :=
  ⟨p, xs, k, k.toNat, rfl, rfl, h, by unfold ixN; rw [if_pos h0, if_pos h1], q⟩
end
end G
namespace G
open PySem PySem.Spec PyProof.Rows L2
/-! ## comprehensions whose parts leave the heap as it is -/
section
variable {σ : L2.St} {vs : List Nat} {H1 : Hp} {D : Addr} {Qd : Hp → Prop} {te : TE} {tt : TT} {k : Nat} {f : Nat → V} {K : PySem.W.Frag} {a : Addr} {xs : List V}
theorem tYes_on {σ2 : L2.St} {H : Hp} {A B : Hp → Prop} (h : A H) : tYes σ2 H fun b H3 => if b = true then A H3 else B H3 := by
  show (if true = true then A H else B H)
  rw [if_pos (rfl : true = true)]
  exact h
/-- [e for x in range(..)] -/
theorem lc_mapR {lo : Int} {n : Nat} (f : Nat → V) (hw : ∀ v, wipe ((wipe σ vs).set k (some v)) vs = wipe σ vs) (hn : n ≤ sizeLine)
    (he : ∀ i, i < n → ∀ acc (Q : VK), Q (f i) (upd H1 D (.lst acc)) → te ((wipe σ vs).set k (some (.int (lo + i)))) (upd H1 D (.lst acc)) Q) (hd : Qd (upd H1 D (.lst ((List.range n).map f)))) :
    ∃ W : Nat → Nat → Hp → Prop, (∃ m, W 0 m (upd H1 D (.lst []))) ∧ ∀ i m H, W i m H →
      ((Itr lo n).stop i H ∧ Qd H) ∨ ((Itr lo n).go i H ∧ ∃ Nx : Hp → Prop, (∀ H', Nx H' → ∃ m', m' < m ∧ W (i + 1) m' H') ∧ ∀ x H', (Itr lo n).yld i H x H' → gName k x (wipe σ vs) H' fun σ2 H2 => wipe σ2 vs = wipe σ vs ∧ tYes σ2 H2 fun b H3 =>
        if b = true then te σ2 H3 fun y H4 => ∃ acc, H4 D = some (.lst acc) ∧ acc.length < sizeLine ∧ Nx (upd H4 D (.lst (acc ++ [y]))) else Nx H3) := by
  refine lc_range (Qd := Qd) (fun i H => H = upd H1 D (.lst ((List.range i).map f))) rfl ?_ fun H e => by rw [e]; exact hd
  rintro i H hi rfl
  refine ⟨hw _, tYes_on (he i hi _ _ ⟨_, upd_same, by rw [List.length_map, List.length_range]; omega, ?_⟩)⟩
  rw [upd_upd, List.range_succ, List.map_append]
  rfl
/-- [e for x in xs] -/
theorem lc_mapL {ys : List V} (hw : ∀ v, wipe ((wipe σ vs).set k (some v)) vs = wipe σ vs) (hl : ∀ acc, SqL K (upd H1 D (.lst acc)) a xs) (hn : xs.length ≤ sizeLine) (hy : ys.length = xs.length)
    (he : ∀ (i : Nat) (x y : V), xs[i]? = some x → ys[i]? = some y → ∀ acc (Q : VK), Q y (upd H1 D (.lst acc)) → te ((wipe σ vs).set k (some x)) (upd H1 D (.lst acc)) Q) (hd : Qd (upd H1 D (.lst ys))) :
    ∃ W : Nat → Nat → Hp → Prop, (∃ m, W 0 m (upd H1 D (.lst []))) ∧ ∀ i m H, W i m H →
      ((Itl K a).stop i H ∧ Qd H) ∨ ((Itl K a).go i H ∧ ∃ Nx : Hp → Prop, (∀ H', Nx H' → ∃ m', m' < m ∧ W (i + 1) m' H') ∧ ∀ x H', (Itl K a).yld i H x H' → gName k x (wipe σ vs) H' fun σ2 H2 => wipe σ2 vs = wipe σ vs ∧ tYes σ2 H2 fun b H3 =>
        if b = true then te σ2 H3 fun y H4 => ∃ acc, H4 D = some (.lst acc) ∧ acc.length < sizeLine ∧ Nx (upd H4 D (.lst (acc ++ [y]))) else Nx H3) := by
  refine lc_list (Qd := Qd) (xs := xs) (fun i H => H = upd H1 D (.lst (ys.take i))) (by rfl) (fun i H _ e => by rw [e]; exact hl _) ?_ fun H e => by
    rw [e, ← hy, List.take_length]
    exact hd
  rintro i x H hi rfl
  have hlt : i < ys.length := by rw [hy]; exact (List.getElem?_eq_some_iff.mp hi).1
  refine ⟨hw _, tYes_on (he i x ys[i] hi (List.getElem?_eq_getElem hlt) _ _ ⟨_, upd_same, by rw [List.length_take]; omega, ?_⟩)⟩
  rw [upd_upd, List.take_succ_eq_append_getElem hlt]
/-- [e for x in xs if t], ys the kept ones, by the places of what is kept -/
theorem lc_iffL {g : V → Option V} (hw : ∀ v, wipe ((wipe σ vs).set k (some v)) vs = wipe σ vs) (hl : ∀ acc, SqL K (upd H1 D (.lst acc)) a xs) (hn : xs.length ≤ sizeLine)
    (he : ∀ (i : Nat) (x : V), xs[i]? = some x → ∀ acc (N : Bool → Hp → Prop), ((g x).isSome = true → N true (upd H1 D (.lst acc))) → ((g x).isSome = false → N false (upd H1 D (.lst acc))) → tt ((wipe σ vs).set k (some x)) (upd H1 D (.lst acc)) N)
    (hy : ∀ (i : Nat) (x y : V), xs[i]? = some x → g x = some y → ∀ acc (Q : VK), Q y (upd H1 D (.lst acc)) → te ((wipe σ vs).set k (some x)) (upd H1 D (.lst acc)) Q) (hd : Qd (upd H1 D (.lst (xs.filterMap g)))) :
    ∃ W : Nat → Nat → Hp → Prop, (∃ m, W 0 m (upd H1 D (.lst []))) ∧ ∀ i m H, W i m H →
      ((Itl K a).stop i H ∧ Qd H) ∨ ((Itl K a).go i H ∧ ∃ Nx : Hp → Prop, (∀ H', Nx H' → ∃ m', m' < m ∧ W (i + 1) m' H') ∧ ∀ x H', (Itl K a).yld i H x H' → gName k x (wipe σ vs) H' fun σ2 H2 => wipe σ2 vs = wipe σ vs ∧ tt σ2 H2 fun b H3 =>
        if b = true then te σ2 H3 fun y H4 => ∃ acc, H4 D = some (.lst acc) ∧ acc.length < sizeLine ∧ Nx (upd H4 D (.lst (acc ++ [y]))) else Nx H3) := by
  refine lc_list (Qd := Qd) (xs := xs) (fun i H => H = upd H1 D (.lst ((xs.take i).filterMap g))) (by rfl) (fun i H _ e => by rw [e]; exact hl _) ?_ fun H e => by
    rw [e, List.take_length]
    exact hd
  rintro i x H hi rfl
  have hlt : i < xs.length := (List.getElem?_eq_some_iff.mp hi).1
  have ex : xs[i] = x := by rw [List.getElem?_eq_getElem hlt] at hi; exact Option.some.inj hi
  have small : ((xs.take i).filterMap g).length < sizeLine := Nat.lt_of_le_of_lt (List.length_filterMap_le _ _) (by rw [List.length_take]; omega)
  refine ⟨hw _, he i x hi _ _ (fun c => ?_) fun c => ?_⟩
  · obtain ⟨y, ey⟩ := Option.isSome_iff_exists.mp c
    rw [if_pos (rfl : true = true)]
    refine hy i x y hi ey _ _ ⟨_, upd_same, small, ?_⟩
    rw [upd_upd, List.take_succ_eq_append_getElem hlt, List.filterMap_append, ex]
    simp only [List.filterMap_cons, ey, List.filterMap_nil]
  · rw [if_neg Bool.false_ne_true, List.take_succ_eq_append_getElem hlt, List.filterMap_append, ex]
    have e0 : g x = none := by cases e : g x with
      | none => rfl
      | some y => rw [e] at c; cases c
    simp only [List.filterMap_cons, e0, List.filterMap_nil, List.append_nil]
end
/-- a statement, then the rest, by what holds between them -/
def tCut (t u : TS) : TS := fun D σ H => ∃ M : L2.St → Hp → Prop, t { D with nx := M } σ H ∧ ∀ σ' H', M σ' H' → u D σ' H'
theorem pss_cut {X : Cx} {st : Stmt} {rest : List Stmt} {t u : TS} (h1 : PS X st t) (h2 : PSs X rest u) : PSs X (st :: rest) (tCut t u) := by
  refine ⟨fun pins s σ H D I h => ?_⟩
  obtain ⟨M, a, b⟩ := h
  refine wpAny_execs_cons (thn (h1.run pins s σ H { D with nx := M } I a) fun f s1 q => ?_)
  cases f with
  | next => exact q.elim fun σ1 z => z.elim fun H1 y => h2.run pins s1 σ1 H1 D y.1 (b σ1 H1 y.2)
  | ret v => exact q
  | brk => exact q
  | cont => exact q
/-- what is wanted of a loop over J; of a comprehension -/
def ForW (J : It) (g : TG) (tb : TS) (D : Ends) (σ : L2.St) (H : Hp) : Prop := ∃ W : Nat → Nat → L2.St → Hp → Prop, (∃ m, W 0 m σ H) ∧ ∀ i m σ H, W i m σ H →
  (J.stop i H ∧ D.nx σ H) ∨ (J.go i H ∧ ∃ N : L2.St → Hp → Prop, (∀ σ' H', N σ' H' → ∃ m', m' < m ∧ W (i + 1) m' σ' H') ∧ ∀ x H', J.yld i H x H' → g x σ H' fun σ2 H2 => tb { D with nx := N, ct := N, bk := D.nx } σ2 H2)
def LcW (J : It) (g : TG) (tt : TT) (te : TE) (vs : List Nat) (σ : L2.St) (H1 : Hp) (Q : VK) : Prop := ∀ D, H1 D = none → ∃ W : Nat → Nat → Hp → Prop, (∃ m, W 0 m (upd H1 D (.lst []))) ∧ ∀ i m H, W i m H →
  (J.stop i H ∧ Q (.ref D) H) ∨ (J.go i H ∧ ∃ Nx : Hp → Prop, (∀ H', Nx H' → ∃ m', m' < m ∧ W (i + 1) m' H') ∧ ∀ x H', J.yld i H x H' → g x (wipe σ vs) H' fun σ2 H2 => wipe σ2 vs = wipe σ vs ∧ tt σ2 H2 fun b H3 =>
    if b = true then te σ2 H3 fun y H4 => ∃ acc, H4 D = some (.lst acc) ∧ acc.length < sizeLine ∧ Nx (upd H4 D (.lst (acc ++ [y]))) else Nx H3)
section
variable {σ : L2.St} {H : Hp} {Q : VK} {D : Ends} {wi : TI} {g : TG} {tb : TS} {tt : TT} {te : TE} {ta : TA} {vs : List Nat} {R : It → Hp → Prop} {K : PySem.W.Frag} {a b : Addr} {n m : Int}
theorem x_for : tFor wi g tb D σ H = wi σ H fun J H1 => ForW J g tb D σ H1 := rfl
theorem x_lc : tLc wi g tt te vs σ H Q = wi σ H fun J H1 => LcW J g tt te vs σ H1 Q := rfl
theorem x_rng1 : iRng1 ta σ H R = ta σ H fun vs H1 => ∃ j : Int, vs = [.int j] ∧ -(2 ^ 62) ≤ j ∧ j < 2 ^ 62 ∧ R (Itr 0 j.toNat) H1 := rfl
theorem x_rng2 : iRng2 ta σ H R = ta σ H fun vs H1 => ∃ i j : Int, vs = [.int i, .int j] ∧ (-(2 ^ 62) ≤ i ∧ i < 2 ^ 62 ∧ -(2 ^ 62) ≤ j ∧ j < 2 ^ 62) ∧ R (Itr i (j - i).toNat) H1 := rfl
theorem x_lst1 {tl : TE} : iList K tl σ H R = tl σ H fun x H1 => ∃ a, x = .ref a ∧ (∃ xs, SqL K H1 a xs) ∧ R (Itl K a) H1 := rfl
theorem x_one {P : Int → Prop} : (∃ j : Int, [V.int n] = [V.int j] ∧ P j) = P n := propext ⟨fun ⟨_, e, q⟩ => by cases e; exact q, fun q => ⟨n, rfl, q⟩⟩
theorem x_two {P : Int → Int → Prop} : (∃ i j : Int, [V.int n, V.int m] = [V.int i, V.int j] ∧ P i j) = P n m := propext ⟨fun ⟨_, _, e, q⟩ => by cases e; exact q, fun q => ⟨n, m, rfl, q⟩⟩
theorem x_adr {P : Addr → Prop} : (∃ b, V.ref a = V.ref b ∧ P b) = P a := propext ⟨fun ⟨_, e, q⟩ => by cases e; exact q, fun q => ⟨a, rfl, q⟩⟩
theorem x_sl {r : V → Option Int → Option Int → Hp → VK → Prop} {tl th : TO} : tSl r te tl th σ H Q = te σ H fun x H1 => tl σ H1 fun l H2 => th σ H2 fun u H3 => r x l u H3 Q := rfl
theorem x_np {QO : Option Int → Hp → Prop} : tNoPart σ H QO = QO none H := rfl
theorem x_pt {QO : Option Int → Hp → Prop} : tPart te σ H QO = te σ H fun x H1 => ∃ i, x = .int i ∧ QO (some i) H1 := rfl
theorem x_int {P : Int → Prop} : (∃ j : Int, V.int n = V.int j ∧ P j) = P n := propext ⟨fun ⟨_, e, q⟩ => by cases e; exact q, fun q => ⟨n, rfl, q⟩⟩
theorem x_bm {T : String} {r : V → List V → Hp → VK → Prop} : tBM K T r te ta σ H Q = te σ H fun x H1 => tyV K T x H1 ∧ ta σ H1 fun xs H2 => r x xs H2 Q := rfl
theorem x_bm0 {T : String} {r : V → List V → Hp → VK → Prop} : tBM0 K T r te σ H Q = te σ H fun x H1 => tyV K T x H1 ∧ r x [] H1 Q := rfl
theorem x_tupg {ts : TGs} {n : Nat} {v : V} {N : L2.St → Hp → Prop} : gTup K n ts v σ H N = ∃ a xs, v = .ref a ∧ SqT K H a xs ∧ xs.length = n ∧ ts xs σ H N := rfl
theorem x_consg {t : TG} {u : TGs} {v : V} {r : List V} {N : L2.St → Hp → Prop} : gCons t u (v :: r) σ H N = t v σ H fun σ' H' => u r σ' H' N := propext ⟨fun ⟨_, _, e, q⟩ => by cases e; exact q, fun q => ⟨v, r, rfl, q⟩⟩
theorem x_nilg {N : L2.St → Hp → Prop} : gNil [] σ H N = N σ H := propext ⟨fun z => z.2, fun z => ⟨rfl, z⟩⟩
theorem x_cut {t u : TS} : tCut t u D σ H = ∃ M : L2.St → Hp → Prop, t { D with nx := M } σ H ∧ ∀ σ' H', M σ' H' → u D σ' H' := rfl
theorem x_dget2 {td ty tx : TE} : tDGet2 td ty tx σ H Q = td σ H fun x H1 => ∃ a, x = .ref a ∧ IsD H1 a ∧ ty σ H1 fun y H2 => tx σ H2 fun z H3 => ∃ o, DGet H3 a y o ∧ Q (o.getD z) H3 := rfl
theorem x_dget1 {td ty : TE} : tDGet1 td ty σ H Q = td σ H fun x H1 => ∃ a, x = .ref a ∧ IsD H1 a ∧ ty σ H1 fun y H2 => ∃ o, DGet H2 a y o ∧ Q (o.getD .non) H2 := rfl
theorem x_dget {td ty : TE} : tDGet td ty σ H Q = td σ H fun x H1 => ty σ H1 fun y H2 => ∃ a v, x = .ref a ∧ DGet H2 a y (some v) ∧ Q v H2 := rfl
theorem x_din {td ty : TE} : tDIn ty td σ H Q = ty σ H fun y H1 => td σ H1 fun x H2 => ∃ a o, x = .ref a ∧ DGet H2 a y o ∧ Q (.bl o.isSome) H2 := rfl
theorem x_dni {td ty : TE} : tDNotIn ty td σ H Q = ty σ H fun y H1 => td σ H1 fun x H2 => ∃ a o, x = .ref a ∧ DGet H2 a y o ∧ Q (.bl (!o.isSome)) H2 := rfl
theorem x_dput {td ty tv : TE} : sDPut td ty tv D σ H = tv σ H fun v H1 => td σ H1 fun x H2 => ty σ H2 fun y H3 => ∃ a H4, x = .ref a ∧ DPut H3 a y v H4 ∧ D.nx σ H4 := rfl
theorem isD_k {kvs : List (Key × V)} (h : H a = some (.dK kvs)) : IsD H a := .inl ⟨kvs, .inl h⟩
theorem dget_i {kvs : List (Key × V)} {i : Int} (h : H a = some (.dK kvs)) : DGet H a (.int i) (valV kvs (.inl i : Key)) := DGet.k (k := .inl i) h
theorem dput_i {kvs : List (Key × V)} {i : Int} {v : V} (h : H a = some (.dK kvs)) (hl : kvs.length < sizeLine) : DPut H a (.int i) v (upd H a (.dK (putK kvs (.inl i : Key) v))) := DPut.k (k := .inl i) h hl
theorem forW_range {lo : Int} {n : Nat} (Pv : Nat → L2.St → Hp → Prop) (h0 : Pv 0 σ H) (hs : ∀ i σ H, i < n → Pv i σ H → g (.int (lo + i)) σ H fun σ2 H2 => tb { D with nx := Pv (i + 1), ct := Pv (i + 1), bk := D.nx } σ2 H2) (hd : ∀ σ H, Pv n σ H → D.nx σ H) : ForW (Itr lo n) g tb D σ H := for_range Pv h0 hs hd
theorem forW_list {xs : List V} (Pv : Nat → L2.St → Hp → Prop) (h0 : Pv 0 σ H) (hl : ∀ i σ H, i ≤ xs.length → Pv i σ H → SqL K H a xs) (hs : ∀ i x σ H, xs[i]? = some x → Pv i σ H → g x σ H fun σ2 H2 => tb { D with nx := Pv (i + 1), ct := Pv (i + 1), bk := D.nx } σ2 H2)
    (hd : ∀ σ H, Pv xs.length σ H → D.nx σ H) : ForW (Itl K a) g tb D σ H := for_list (xs := xs) Pv h0 hl hs hd
end
theorem x_yes {σ : L2.St} {H : Hp} {Q : Bool → Hp → Prop} : tYes σ H Q = Q true H := rfl
end G
namespace G
open PySem PySem.Spec PySem.Calls PyProof.Rows L2
/-! ### more shapes of loops, of targets -/
section
variable {σ : L2.St} {H : Hp} {Q : VK} {D : Ends} {g : TG} {tb : TS} {tl : TE} {ta : TA} {R : It → Hp → Prop} {K : PySem.W.Frag} {a : Addr}
theorem x_itup : iTup K tl σ H R = tl σ H fun x H1 => ∃ a, x = .ref a ∧ (∃ xs, SqT K H1 a xs) ∧ R (Itt K a) H1 := rfl
theorem x_rng3 : iRng3 ta σ H R = ta σ H fun vs H1 => ∃ (i j c : Int) (n : Nat), vs = [.int i, .int j, .int c] ∧ RgC i j c n ∧ R (Itc i c n) H1 := rfl
theorem x_three {x y z : Int} {P : Int → Int → Int → Nat → Prop} : (∃ (i j c : Int) (n : Nat), [V.int x, V.int y, V.int z] = [.int i, .int j, .int c] ∧ P i j c n) = ∃ n, P x y z n :=
  propext ⟨fun ⟨_, _, _, n, e, q⟩ => by cases e; exact ⟨n, q⟩, fun ⟨n, q⟩ => ⟨x, y, z, n, rfl, q⟩⟩
theorem x_lstg {ts : TGs} {n : Nat} {v : V} {N : L2.St → Hp → Prop} : gLst K n ts v σ H N = ∃ a xs, v = .ref a ∧ SqL K H a xs ∧ xs.length = n ∧ ts xs σ H N := rfl
theorem x_adrS {β : Type} {P : Addr → β → Prop} : (∃ b xs, V.ref a = V.ref b ∧ P b xs) = ∃ xs, P a xs := propext ⟨fun ⟨_, xs, e, q⟩ => by cases e; exact ⟨xs, q⟩, fun ⟨xs, q⟩ => ⟨a, xs, rfl, q⟩⟩
theorem forW_tup {xs : List V} (Pv : Nat → L2.St → Hp → Prop) (h0 : Pv 0 σ H) (hl : ∀ i σ H, i ≤ xs.length → Pv i σ H → SqT K H a xs) (hs : ∀ i x σ H, xs[i]? = some x → Pv i σ H → g x σ H fun σ2 H2 => tb { D with nx := Pv (i + 1), ct := Pv (i + 1), bk := D.nx } σ2 H2)
    (hd : ∀ σ H, Pv xs.length σ H → D.nx σ H) : ForW (Itt K a) g tb D σ H := for_tup (xs := xs) Pv h0 hl hs hd
theorem forW_step {lo c : Int} {n : Nat} (Pv : Nat → L2.St → Hp → Prop) (h0 : Pv 0 σ H) (hs : ∀ i σ H, i < n → Pv i σ H → g (.int (lo + (i : Nat) * c)) σ H fun σ2 H2 => tb { D with nx := Pv (i + 1), ct := Pv (i + 1), bk := D.nx } σ2 H2)
    (hd : ∀ σ H, Pv n σ H → D.nx σ H) : ForW (Itc lo c n) g tb D σ H := for_rangeC Pv h0 hs hd
end
end G
namespace G
open PySem PySem.Spec PySem.Calls PyProof.Rows L2 He
/-! ### is True, in, sorted, all -/
section
variable {X : Cx} {K : PySem.W.Frag}
def gIsB : R2 := fun x y H Q => ∃ b, y = .bl b ∧ Q (.bl (decide (x = .bl b))) H
def gNotB : R2 := fun x y H Q => ∃ b, y = .bl b ∧ Q (.bl (!decide (x = .bl b))) H
theorem relV_bl {x : V} {b : Bool} (r : RelV x (.bool b)) : x = .bl b := by
  cases x with
  | bl c => cases r; rfl
  | int i => obtain ⟨t, e⟩ := r; cases e
  | str i => obtain ⟨t, e⟩ := r; cases e
  | byt i => obtain ⟨t, e⟩ := r; cases e
  | flt i => obtain ⟨t, e⟩ := r; cases e
  | non => cases r
  | ref a => cases r
  | ty n => cases r
theorem relV_plain {x : V} {v : Value} {b : Bool} (r : RelV x v) : plainIs v (.bool b) = true := by
  cases x with
  | bl c => cases r; rfl
  | int i => obtain ⟨t, e⟩ := r; subst e; rfl
  | str i => obtain ⟨t, e⟩ := r; subst e; rfl
  | byt i => obtain ⟨t, e⟩ := r; subst e; rfl
  | flt i => obtain ⟨t, e⟩ := r; subst e; rfl
  | non => cases r; rfl
  | ref a => cases r; rfl
  | ty n => cases r; rfl
theorem op_gIsB : OpR X (compareOp .Is) gIsB := by
  intro pins s σ H x y v u Q I rx ry h
  obtain ⟨b, rfl, q⟩ := h
  cases (show u = Value.bool b from ry)
  by_cases e : v = .bool b
  · subst e
    have ex := relV_bl rx
    exact wpAny_is_self rfl ⟨.bl true, H, I, rfl, by rw [decide_eq_true ex] at q; exact q⟩
  · have ex : ¬ x = .bl b := fun z => e (by subst z; exact rx)
    exact wpAny_is_other (relV_plain rx) e ⟨.bl false, H, I, rfl, by rw [decide_eq_false ex] at q; exact q⟩
theorem op_gNotB : OpR X (compareOp .IsNot) gNotB := by
  intro pins s σ H x y v u Q I rx ry h
  obtain ⟨b, rfl, q⟩ := h
  cases (show u = Value.bool b from ry)
  by_cases e : v = .bool b
  · subst e
    have ex := relV_bl rx
    exact wpAny_isNot_self rfl ⟨.bl false, H, I, rfl, by rw [decide_eq_true ex] at q; exact q⟩
  · have ex : ¬ x = .bl b := fun z => e (by subst z; exact rx)
    exact wpAny_isNot_other (relV_plain rx) e ⟨.bl true, H, I, rfl, by rw [decide_eq_false ex] at q; exact q⟩
theorem op_inK (hK : X.K = K) : OpR X (compareOp .In) (rIn K false) := hK ▸ op_in_seq
theorem op_ninK (hK : X.K = K) : OpR X (compareOp .NotIn) (rIn K true) := hK ▸ op_notIn_seq
theorem call_sortedK (hK : X.K = K) : CallR X (.builtin "sorted") (rSortedI K) := hK ▸ cr_sortedI
theorem call_allK (hK : X.K = K) (hc : X.calm = true) : CallR X (.builtin "all") (rAll K) := hK ▸ cr_all hc
theorem call_anyK (hK : X.K = K) (hc : X.calm = true) : CallR X (.builtin "any") (rAny K) := hK ▸ cr_any hc
end
section
variable {σ : L2.St} {H : Hp} {Q : VK} {x : V} {b : Bool}
theorem r_isB : gIsB x (.bl b) H Q = Q (.bl (decide (x = .bl b))) H := propext ⟨fun ⟨_, e, q⟩ => by cases e; exact q, fun q => ⟨b, rfl, q⟩⟩
theorem r_notB : gNotB x (.bl b) H Q = Q (.bl (!decide (x = .bl b))) H := propext ⟨fun ⟨_, e, q⟩ => by cases e; exact q, fun q => ⟨b, rfl, q⟩⟩
theorem x_dpop2 {td ty tx : TE} : tDPop2 td ty tx σ H Q = td σ H fun x H1 => ∃ a, x = .ref a ∧ IsD H1 a ∧ ty σ H1 fun y H2 => tx σ H2 fun z H3 => ∃ kvs k, H3 a = some (.dK kvs) ∧ y = kV k ∧
  (∀ v, valV kvs k = some v → Q v (upd H3 a (.dK (dropK kvs k)))) ∧ (valV kvs k = none → Q z H3) := rfl
theorem r_isi {v : V} {T t : String} (e : tyOf v H = some t) (q : Q (.bl (isB t T)) H) (hT : T ∈ (["int", "bool", "str", "list", "tuple", "dict"] : List String) := by decide) : gIsi [v, .ty T] H Q := ⟨hT, t, e, q⟩
theorem r_isiL {a : Addr} {xs : List V} (h : H a = some (.lst xs)) (q : Q (.bl true) H) : gIsi [.ref a, .ty "list"] H Q := r_isi (t := "list") (by show tyO (H a) = _; rw [h]; rfl) q
theorem r_isiT {a : Addr} {xs : List V} (h : H a = some (.tup xs)) (q : Q (.bl true) H) : gIsi [.ref a, .ty "tuple"] H Q := r_isi (t := "tuple") (by show tyO (H a) = _; rw [h]; rfl) q
theorem r_isiII {n : Int} : gIsi [.int n, .ty "int"] H Q = Q (.bl true) H := propext ⟨fun ⟨_, t, e, q⟩ => by cases e; exact q, fun q => ⟨by decide, _, rfl, q⟩⟩
theorem r_isiBB : gIsi [.bl b, .ty "bool"] H Q = Q (.bl true) H := propext ⟨fun ⟨_, t, e, q⟩ => by cases e; exact q, fun q => ⟨by decide, _, rfl, q⟩⟩
theorem r_isiIB {n : Int} : gIsi [.int n, .ty "bool"] H Q = Q (.bl false) H := propext ⟨fun ⟨_, t, e, q⟩ => by cases e; exact q, fun q => ⟨by decide, _, rfl, q⟩⟩
theorem r_isiSS {z : Str} : gIsi [.str z, .ty "str"] H Q = Q (.bl true) H := propext ⟨fun ⟨_, t, e, q⟩ => by cases e; exact q, fun q => ⟨by decide, _, rfl, q⟩⟩
theorem r_neNS {K : PySem.W.Frag} {z : Str} : gNe K .non (.str z) H Q = Q (.bl true) H := rfl
theorem r_neSN {K : PySem.W.Frag} {z : Str} : gNe K (.str z) .non H Q = Q (.bl true) H := rfl
theorem r_neNN {K : PySem.W.Frag} : gNe K .non .non H Q = Q (.bl false) H := rfl
theorem r_eqNS {K : PySem.W.Frag} {z : Str} : gEq K .non (.str z) H Q = Q (.bl false) H := rfl
theorem r_eqSN {K : PySem.W.Frag} {z : Str} : gEq K (.str z) .non H Q = Q (.bl false) H := rfl
theorem r_eqNN {K : PySem.W.Frag} : gEq K .non .non H Q = Q (.bl true) H := rfl
theorem r_eqIS {K : PySem.W.Frag} {n : Int} {z : Str} : gEq K (.int n) (.str z) H Q = Q (.bl false) H := rfl
theorem r_neIS {K : PySem.W.Frag} {n : Int} {z : Str} : gNe K (.int n) (.str z) H Q = Q (.bl true) H := rfl
theorem r_neSI {K : PySem.W.Frag} {n : Int} {z : Str} : gNe K (.str z) (.int n) H Q = Q (.bl true) H := rfl
theorem r_neBS {K : PySem.W.Frag} {z : Str} : gNe K (.bl b) (.str z) H Q = Q (.bl true) H := rfl
theorem r_eqBB {K : PySem.W.Frag} {c : Bool} : gEq K (.bl b) (.bl c) H Q = Q (.bl (b == c)) H := rfl
theorem r_neBB {K : PySem.W.Frag} {c : Bool} : gNe K (.bl b) (.bl c) H Q = Q (.bl (!(b == c))) H := rfl
theorem r_ixL {K : PySem.W.Frag} {a : Addr} {xs : List V} {i : Nat} {v : V} (h : H a = some (.lst xs)) (e : xs[i]? = some v) (q : Q v H) : rIx K (.ref a) (.int (i : Int)) H Q := .inl ⟨_, _, _, _, rfl, rfl, .of h, by
  have hl := (List.getElem?_eq_some_iff.mp e).1
  unfold atI ixN
  rw [if_pos (by omega), if_pos (by omega), Int.toNat_natCast]
  exact e, q⟩
end
/-! ### isinstance(e, (C, D, ..)) of a caught error -/
def tIsQ (K : PySem.W.Frag) (x : V) (cs : List V) (H : Hp) (Q : VK) : Prop := cs.length ≤ sizeLine ∧ ∃ a D us b, x = .ref a ∧ H a = some (ExA (.ref D) a) ∧ ExcC K D ∧ Paired ClsV cs us ∧ PySem.W.kitAny K (.ref D) us = some b ∧ Q (.bl b) H
theorem x_isT {K : PySem.W.Frag} {σ : L2.St} {H : Hp} {Q : VK} {ta : TE} {tc : TA} : tIsT K ta tc σ H Q = ta σ H fun x H1 => tc σ H1 fun cs H2 => tIsQ K x cs H2 Q := rfl
inductive NamesK (K : PySem.W.Frag) : List V → List Str → Prop where
  | nil : NamesK K [] []
  | cons (c : Str) {cs : List V} {ns : List Str} (t : NamesK K cs ns) : NamesK K (.ref (ga K c) :: cs) (c :: ns)
theorem NamesK.len {K : PySem.W.Frag} {cs : List V} {ns : List Str} (h : NamesK K cs ns) : cs.length = ns.length := by
  induction h with
  | nil => rfl
  | cons c t ih => exact congrArg (· + 1) ih
theorem NamesK.pair {K : PySem.W.Frag} {cs : List V} {ns : List Str} (h : NamesK K cs ns) : Paired ClsV cs (ns.map fun c => Value.ref (ga K c)) := by
  induction h with
  | nil => exact .nil
  | cons c t ih => exact .cons (.own _) ih
theorem Told.anyOf {fa : List Fa} {fn : List DefD} {xl : XL} {K : PySem.W.Frag} {mg : Str → Option Value} (T : Told fa fn xl K mg) {d : Str} (hd : d ∈ xl.ex) : ∀ ns : List Str, (∀ c ∈ ns, c ∈ xl.ex) → PySem.W.kitAny K (.ref (ga K d)) (ns.map fun c => Value.ref (ga K c)) = some (ns.any (under d))
  | [], _ => rfl
  | c :: r, h => by
    show (match PySem.W.kitOne K (.ref (ga K d)) (.ref (ga K c)) with
      | some true => some true
      | some false => PySem.W.kitAny K (.ref (ga K d)) (r.map fun c => Value.ref (ga K c))
      | none => none) = some (under d c || r.any (under d))
    rw [((T.err hd).2.2 c (h c (List.mem_cons_self))).1]
    cases under d c with
    | true => rfl
    | false => exact T.anyOf hd r fun c hc => h c (List.mem_cons_of_mem _ hc)
theorem Told.isA {fa : List Fa} {fn : List DefD} {xl : XL} {K : PySem.W.Frag} {mg : Str → Option Value} (T : Told fa fn xl K mg) {d : Str} {a : Addr} {H : Hp} {Q : VK} {cs : List V} {ns : List Str} {b : Bool} (ha : H a = some (ExA (.ref (ga K d)) a)) (n : NamesK K cs ns)
    (hd : d ∈ xl.ex) (hc : (ns.all fun c => decide (c ∈ xl.ex)) = true) (hl : ns.length ≤ 1000) (e : ns.any (under d) = b) (q : Q (.bl b) H) : tIsQ K (.ref a) cs H Q :=
  ⟨by rw [n.len, sizeLine_eq]; omega, a, _, _, b, rfl, ha, (T.err hd).1, n.pair, (T.anyOf hd ns fun c h => of_decide_eq_true (List.all_eq_true.mp hc c h)).trans (congrArg some e), q⟩
end G
namespace G
open PySem PySem.Spec PySem.Calls PyProof.Rows L2 He
/-! ### == of data of some depth -/
def ShK (k : Nat) (d : PyData) : Prop := d.canLay0 = true ∧ d.depth ≤ k
theorem ShK.up {k n : Nat} {d : PyData} (h : ShK k d) (e : k ≤ n) : ShK n d := ⟨h.1, Nat.le_trans h.2 e⟩
theorem ShK.all {k : Nat} : ∀ {ds : List PyData}, (∀ z ∈ ds, ShK k z) → PyData.canLayAll0 ds = true ∧ PyData.depthAll ds ≤ k
  | [], _ => ⟨by simp [PyData.canLayAll0], by simp [PyData.depthAll]⟩
  | z :: zs, h => by
    have h1 := ShK.all (ds := zs) fun y hy => h y (List.mem_cons_of_mem _ hy)
    have h2 := h z (List.mem_cons_self)
    refine ⟨by simp [PyData.canLayAll0, h2.1, h1.1], ?_⟩
    have a := h2.2
    have b := h1.2
    simp only [PyData.depthAll]
    omega
theorem ShK.lst {k : Nat} {ds : List PyData} (h : ∀ z ∈ ds, ShK k z) : ShK (k + 1) (.list ds) := by
  have a := ShK.all h
  refine ⟨by simp [PyData.canLay0, a.1], ?_⟩
  have b := a.2
  simp only [PyData.depth]
  omega
theorem ShK.tup {k : Nat} {ds : List PyData} (h : ∀ z ∈ ds, ShK k z) : ShK (k + 1) (.tuple ds) := by
  have a := ShK.all h
  refine ⟨by simp [PyData.canLay0, a.1], ?_⟩
  have b := a.2
  simp only [PyData.depth]
  omega
theorem ShK.ok {k : Nat} {d : PyData} (h : ShK k d) (e : k ≤ 64) : SeqAt.shaped d = true := by
  show (d.canLay0 && decide (d.depth ≤ 64)) = true
  rw [h.1, decide_eq_true (Nat.le_trans h.2 e)]
  rfl
/-- flat things as data -/
def toD : V → PyData
  | .bl b => .bool b
  | .int i => .int i
  | _ => .none
def flatI : V → Bool
  | .non => true
  | .bl _ => true
  | .int _ => true
  | _ => false
theorem toD_sh {v : V} : ShK 0 (toD v) := by cases v <;> exact ⟨by simp [toD, PyData.canLay0], by simp [toD, PyData.depth]⟩
theorem toD_dp {K : PySem.W.Frag} {H : Hp} {v : V} (h : flatI v = true) : Dp K H v (toD v) := by
  cases v <;> first | (cases h; done) | skip
  · exact .non
  · exact .bl _
  · exact .int _
theorem toDs_dp {K : PySem.W.Frag} {H : Hp} : ∀ {xs : List V}, (∀ x ∈ xs, flatI x = true) → DpAll K H xs (xs.map toD)
  | [], _ => .nil
  | _ :: _, h => .cons (toD_dp (h _ (List.mem_cons_self))) (toDs_dp fun y hy => h y (List.mem_cons_of_mem _ hy))
theorem toDs_sh {xs : List V} : ∀ z ∈ xs.map toD, ShK 0 z := fun z h => by
  obtain ⟨v, -, e⟩ := List.mem_map.mp h
  subst e
  exact toD_sh
/-- lists of flat things; of tuples of flat things -/
theorem dp_flat {K : PySem.W.Frag} {H : Hp} {a : Addr} {xs : List V} (h : H a = some (.lst xs)) (f : ∀ x ∈ xs, flatI x = true) : Dp K H (.ref a) (.list (xs.map toD)) := .lst (.of h) (toDs_dp f)
theorem sh_flat {xs : List V} : SeqAt.shaped (.list (xs.map toD)) = true := (ShK.lst toDs_sh).ok (by decide)
inductive TupAll (H : Hp) : List V → List (List V) → Prop where
  | nil : TupAll H [] []
  | cons {tp : Addr} {xs : List V} {rs : List V} {yss : List (List V)} (h : H tp = some (.tup xs)) (f : ∀ x ∈ xs, flatI x = true) (t : TupAll H rs yss) : TupAll H (.ref tp :: rs) (xs :: yss)
def tupD (yss : List (List V)) : PyData := .list (yss.map fun xs => .tuple (xs.map toD))
theorem TupAll.dp {K : PySem.W.Frag} {H : Hp} : ∀ {rs : List V} {yss : List (List V)}, TupAll H rs yss → DpAll K H rs (yss.map fun xs => .tuple (xs.map toD))
  | _, _, .nil => .nil
  | _, _, .cons h f t => .cons (.tup (.inl (.inl h)) (toDs_dp f)) t.dp
theorem TupAll.same {H H' : Hp} {rs : List V} {yss : List (List V)} (h : TupAll H rs yss) (s : Same H H') : TupAll H' rs yss := by
  induction h with
  | nil => exact .nil
  | cons h f t ih => exact .cons (s _ _ h) f ih
theorem TupAll.snoc {H : Hp} {rs : List V} {yss : List (List V)} {tp : Addr} {xs : List V} (h : TupAll H rs yss) (e : H tp = some (.tup xs)) (f : ∀ x ∈ xs, flatI x = true) : TupAll H (rs ++ [.ref tp]) (yss ++ [xs]) := by
  induction h with
  | nil => exact .cons e f .nil
  | cons h f' t ih => exact .cons h f' ih
theorem TupAll.put {H : Hp} {rs : List V} {yss : List (List V)} {D : Addr} {o o' : HO} (h : TupAll H rs yss) (e : H D = some o) (n : ∀ xs, o ≠ .tup xs) : TupAll (upd H D o') rs yss := by
  induction h with
  | nil => exact .nil
  | cons h f t ih => exact .cons (by rw [upd_ne (ne_of h e fun z => n _ z.symm)]; exact h) f ih
theorem TupAll.len {H : Hp} {rs : List V} {yss : List (List V)} (h : TupAll H rs yss) : rs.length = yss.length := by
  induction h with
  | nil => rfl
  | cons h f t ih => exact congrArg (· + 1) ih
theorem TupAll.mem {H : Hp} {rs : List V} {yss : List (List V)} (h : TupAll H rs yss) : ∀ r ∈ rs, ∃ tp xs, r = .ref tp ∧ H tp = some (.tup xs) ∧ xs ∈ yss := by
  induction h with
  | nil => exact fun r h => (List.not_mem_nil h).elim
  | cons h f t ih =>
    intro r hr
    rcases List.mem_cons.mp hr with rfl | hr
    · exact ⟨_, _, rfl, h, List.mem_cons_self⟩
    · obtain ⟨tp, xs, e, h', m⟩ := ih r hr
      exact ⟨tp, xs, e, h', List.mem_cons_of_mem _ m⟩
theorem dp_tups {K : PySem.W.Frag} {H : Hp} {a : Addr} {rs : List V} {yss : List (List V)} (h : H a = some (.lst rs)) (t : TupAll H rs yss) : Dp K H (.ref a) (tupD yss) := .lst (.of h) t.dp
theorem sh_tups {yss : List (List V)} : SeqAt.shaped (tupD yss) = true := by
  refine (ShK.lst (k := 1) fun z h => ?_).ok (by decide)
  obtain ⟨xs, -, e⟩ := List.mem_map.mp h
  subst e
  exact ShK.tup toDs_sh
theorem shaped_refl {d : PyData} (s : SeqAt.shaped d = true) : PyData.eqv d d = true := PySem.SeqAt.eqv_refl d (SeqAt.canLay_of_shaped s)
theorem r_eqSame {K : PySem.W.Frag} {H : Hp} {Q : VK} {a b : Addr} {d : PyData} (h1 : Dp K H (.ref a) d) (h2 : Dp K H (.ref b) d) (s : SeqAt.shaped d = true) (q : Q (.bl true) H) : gEq K (.ref a) (.ref b) H Q := ⟨d, d, h1, h2, s, s, by rw [shaped_refl s]; exact q⟩
theorem r_neSame {K : PySem.W.Frag} {H : Hp} {Q : VK} {a b : Addr} {d : PyData} (h1 : Dp K H (.ref a) d) (h2 : Dp K H (.ref b) d) (s : SeqAt.shaped d = true) (q : Q (.bl false) H) : gNe K (.ref a) (.ref b) H Q := ⟨d, d, h1, h2, s, s, by rw [shaped_refl s]; exact q⟩
theorem getD_range {ts : List V} {d : V} : (List.range ts.length).map (fun i => ts.getD i d) = ts := by
  refine List.ext_getElem (by rw [List.length_map, List.length_range]) fun i h1 h2 => ?_
  rw [List.getElem_map, List.getElem_range, List.getD_eq_getElem?_getD, List.getElem?_eq_getElem h2]
  rfl
theorem getD_at {α : Type} {ts : List α} {d : α} {i : Nat} (h : i < ts.length) : ts[i]? = some (ts.getD i d) := by
  rw [List.getElem?_eq_getElem h, List.getD_eq_getElem?_getD, List.getElem?_eq_getElem h]
  rfl
theorem r_ixT {K : PySem.W.Frag} {H : Hp} {Q : VK} {a : Addr} {xs : List V} {i : Nat} {v : V} (h : H a = some (.tup xs)) (e : xs[i]? = some v) (q : Q v H) : rIx K (.ref a) (.int (i : Int)) H Q := .inr (.inl ⟨_, _, _, _, rfl, rfl, .inl (.inl h), by
  have hl := (List.getElem?_eq_some_iff.mp e).1
  unfold atI ixN
  rw [if_pos (by omega), if_pos (by omega), Int.toNat_natCast]
  exact e, q⟩)
theorem op_catTK {X : Cx} {K : PySem.W.Frag} (hK : X.K = K) : OpR X (binaryOp .Add) (rCatT K) := hK ▸ op_catT
theorem r_cat {K : PySem.W.Frag} {H : Hp} {Q : VK} {a b : Addr} {xs ys : List V} (h1 : H a = some (.tup xs)) (h2 : H b = some (.tup ys)) (nx : xs ≠ []) (ny : ys ≠ []) (hl : xs.length + ys.length ≤ sizeLine) (q : ∀ p, H p = none → Q (.ref p) (upd H p (.tup (xs ++ ys)))) : rCatT K (.ref a) (.ref b) H Q :=
  ⟨a, b, xs, ys, rfl, rfl, .inl (.inl h1), .inl (.inl h2), nx, hl, fun e => absurd e ny, fun _ => q⟩
/-- addresses that are in use -/
def Live (H : Hp) (L : List Addr) : Prop := L.Nodup ∧ ∀ c ∈ L, ∃ o, H c = some o
theorem Live.nil {H : Hp} : Live H [] := ⟨List.nodup_nil, fun c h => (List.not_mem_nil h).elim⟩
theorem Live.same {H H' : Hp} {L : List Addr} (h : Live H L) (s : Same H H') : Live H' L := ⟨h.1, fun c m => let ⟨o, e⟩ := h.2 c m; ⟨o, s _ _ e⟩⟩
theorem Live.cons {H H' : Hp} {L : List Addr} {x : Addr} {o : HO} (h : Live H L) (s : Same H H') (e : H x = none) (e' : H' x = some o) : Live H' (x :: L) := by
  refine ⟨List.nodup_cons.mpr ⟨fun m => ?_, h.1⟩, fun c m => ?_⟩
  · obtain ⟨o, g⟩ := h.2 x m
    rw [e] at g
    cases g
  · rcases List.mem_cons.mp m with rfl | m
    · exact ⟨_, e'⟩
    · obtain ⟨o, g⟩ := h.2 c m
      exact ⟨o, s _ _ g⟩
/-! ### enumerate -/
theorem x_enum {σ : L2.St} {H : Hp} {ta : TA} {R : It → Hp → Prop} {K : PySem.W.Frag} : iEnum K ta σ H R = ta σ H fun vs H1 => ∃ a xs, vs = [.ref a] ∧ SqL K H1 a xs ∧ R (Ite K a) H1 := rfl
end G
namespace G
open PySem PySem.Spec PySem.Calls PyProof.Rows L2 He
/-! ### while -/
def WhB (W : Nat → L2.St → Hp → Prop) (k : Nat) (tb : TS) (D : Ends) (σ : L2.St) (H : Hp) : Prop :=
  ∃ N : L2.St → Hp → Prop, (∀ σ' H', N σ' H' → ∃ m', m' < k ∧ W m' σ' H') ∧ tb { D with nx := N, ct := N, bk := D.nx } σ H
theorem whW {c : TT} {tb : TS} {D : Ends} {σ : L2.St} {H : Hp} (W : Nat → L2.St → Hp → Prop) (h0 : ∃ k, W k σ H) (hs : ∀ k σ H, W k σ H → c σ H fun b H1 => if b = true then WhB W k tb D σ H1 else D.nx σ H1) : tWhile c tb D σ H :=
  ⟨W, h0, hs⟩
theorem whB {W : Nat → L2.St → Hp → Prop} {k : Nat} {tb : TS} {D : Ends} {σ : L2.St} {H : Hp} (h : tb { D with nx := fun σ' H' => ∃ m', m' < k ∧ W m' σ' H', ct := fun σ' H' => ∃ m', m' < k ∧ W m' σ' H', bk := D.nx } σ H) : WhB W k tb D σ H :=
  ⟨_, fun _ _ q => q, h⟩
end G
namespace G
open PySem PySem.Spec PySem.Calls PyProof.Rows L2 He
theorem call_sumK {X : Cx} {K : PySem.W.Frag} (hK : X.K = K) (hc : X.calm = true) : CallR X (.builtin "sum") (rSum K) := hK ▸ cr_sum hc
theorem r_sumL {K : PySem.W.Frag} {H : Hp} {Q : VK} {a : Addr} {ns : List Int} (h : H a = some (.lst (ns.map V.int))) (q : Q (.int ns.sum) H) : rSum K [.ref a] H Q := ⟨a, ns, rfl, .of h, q⟩
/-- all of a list of truths is true -/
theorem r_allT {K : PySem.W.Frag} {H : Hp} {Q : VK} {a : Addr} {n : Nat} (h : H a = some (.lst (List.replicate n (.bl true)))) (q : Q (.bl true) H) : rAll K [.ref a] H Q := by
  refine ⟨a, List.replicate n true, rfl, .of (by rw [List.map_replicate]; exact h), ?_⟩
  rw [show (List.replicate n true).all id = true from List.all_eq_true.mpr fun b hb => (List.mem_replicate.mp hb).2]
  exact q
/-- [True for .. in xs] -/
theorem lc_trueL {σ : L2.St} {vs : List Nat} {H1 : Hp} {D : Addr} {Qd : Hp → Prop} {te : TE} {k : Nat} {K : PySem.W.Frag} {a : Addr} {xs : List V} (hw : ∀ v, wipe ((wipe σ vs).set k (some v)) vs = wipe σ vs) (hl : ∀ acc, SqL K (upd H1 D (.lst acc)) a xs) (hn : xs.length ≤ sizeLine)
    (he : ∀ (i : Nat) (x : V), xs[i]? = some x → ∀ acc (Q : VK), Q (.bl true) (upd H1 D (.lst acc)) → te ((wipe σ vs).set k (some x)) (upd H1 D (.lst acc)) Q) (hd : Qd (upd H1 D (.lst (List.replicate xs.length (.bl true))))) :
    ∃ W : Nat → Nat → Hp → Prop, (∃ m, W 0 m (upd H1 D (.lst []))) ∧ ∀ i m H, W i m H →
      ((Itl K a).stop i H ∧ Qd H) ∨ ((Itl K a).go i H ∧ ∃ Nx : Hp → Prop, (∀ H', Nx H' → ∃ m', m' < m ∧ W (i + 1) m' H') ∧ ∀ x H', (Itl K a).yld i H x H' → gName k x (wipe σ vs) H' fun σ2 H2 => wipe σ2 vs = wipe σ vs ∧ tYes σ2 H2 fun b H3 =>
        if b = true then te σ2 H3 fun y H4 => ∃ acc, H4 D = some (.lst acc) ∧ acc.length < sizeLine ∧ Nx (upd H4 D (.lst (acc ++ [y]))) else Nx H3) :=
  lc_mapL (ys := List.replicate xs.length (.bl true)) hw hl hn (List.length_replicate) (fun i x y hx hy acc Q q => by
    have e := (List.mem_replicate.mp (List.mem_of_getElem? hy)).2
    subst e
    exact he i x hx acc Q q) hd
/-- whole numbers in a list -/
theorem ints_mem {ns : List Int} {i : Nat} {x : V} (h : (ns.map V.int)[i]? = some x) : ∃ n, x = .int n ∧ n ∈ ns := by
  obtain ⟨n, m, e⟩ := List.mem_map.mp (List.mem_of_getElem? h)
  exact ⟨n, e.symm, m⟩
theorem ints_flat {ns : List Int} : ∀ x ∈ ns.map V.int, flatI x = true := fun x h => by
  obtain ⟨i, -, e⟩ := List.mem_map.mp h
  subst e
  rfl
theorem dp_ints {K : PySem.W.Frag} {H : Hp} {a : Addr} {ns : List Int} (h : H a = some (.lst (ns.map V.int))) : Dp K H (.ref a) (.list ((ns.map V.int).map toD)) := dp_flat h ints_flat
/-- two lists of the same whole numbers -/
theorem r_eqInts {K : PySem.W.Frag} {H : Hp} {Q : VK} {a b : Addr} {ns : List Int} (h1 : H a = some (.lst (ns.map V.int))) (h2 : H b = some (.lst (ns.map V.int))) (q : Q (.bl true) H) : gEq K (.ref a) (.ref b) H Q := r_eqSame (dp_ints h1) (dp_ints h2) sh_flat q
theorem r_neInts {K : PySem.W.Frag} {H : Hp} {Q : VK} {a b : Addr} {ns : List Int} (h1 : H a = some (.lst (ns.map V.int))) (h2 : H b = some (.lst (ns.map V.int))) (q : Q (.bl false) H) : gNe K (.ref a) (.ref b) H Q := r_neSame (dp_ints h1) (dp_ints h2) sh_flat q
/-- [text, thing]: what law's tries tell -/
inductive PlD : V → PyData → Prop where
  | non : PlD .non .none
  | bl (b : Bool) : PlD (.bl b) (.bool b)
  | int (i : Int) : PlD (.int i) (.int i)
  | str (z : Str) (h : PyData.strOk z = true) : PlD (.str z) (.str z)
theorem PlD.dp {K : PySem.W.Frag} {H : Hp} {v : V} {d : PyData} (h : PlD v d) : Dp K H v d := by
  cases h with
  | non => exact .non
  | bl b => exact .bl b
  | int i => exact .int i
  | str z h => exact .str z
theorem PlD.sh {v : V} {d : PyData} (h : PlD v d) : ShK 0 d := by
  cases h with
  | str z h => exact ⟨by simp only [PyData.canLay0]; exact h, by simp [PyData.depth]⟩
  | _ => exact ⟨by simp [PyData.canLay0], by simp [PyData.depth]⟩
inductive PlAll : List V → List PyData → Prop where
  | nil : PlAll [] []
  | cons {v : V} {d : PyData} {vs : List V} {ds : List PyData} (h : PlD v d) (t : PlAll vs ds) : PlAll (v :: vs) (d :: ds)
theorem PlAll.dp {K : PySem.W.Frag} {H : Hp} {vs : List V} {ds : List PyData} (h : PlAll vs ds) : DpAll K H vs ds := by
  induction h with
  | nil => exact .nil
  | cons h t ih => exact .cons h.dp ih
theorem PlAll.sh {vs : List V} {ds : List PyData} (h : PlAll vs ds) : ∀ z ∈ ds, ShK 0 z := by
  induction h with
  | nil => exact fun z h => (List.not_mem_nil h).elim
  | cons h t ih =>
    intro z m
    rcases List.mem_cons.mp m with rfl | m
    · exact h.sh
    · exact ih z m
/-- == of lists of plain things -/
theorem r_eqPl {K : PySem.W.Frag} {H : Hp} {Q : VK} {a b : Addr} {xs ys : List V} {ds es : List PyData} (h1 : H a = some (.lst xs)) (h2 : H b = some (.lst ys)) (p1 : PlAll xs ds) (p2 : PlAll ys es) (q : Q (.bl (PyData.eqv (.list ds) (.list es))) H) : gEq K (.ref a) (.ref b) H Q :=
  ⟨_, _, .lst (.of h1) p1.dp, .lst (.of h2) p2.dp, (ShK.lst p1.sh).ok (by decide), (ShK.lst p2.sh).ok (by decide), q⟩
theorem r_nePl {K : PySem.W.Frag} {H : Hp} {Q : VK} {a b : Addr} {xs ys : List V} {ds es : List PyData} (h1 : H a = some (.lst xs)) (h2 : H b = some (.lst ys)) (p1 : PlAll xs ds) (p2 : PlAll ys es) (q : Q (.bl (!PyData.eqv (.list ds) (.list es))) H) : gNe K (.ref a) (.ref b) H Q :=
  ⟨_, _, .lst (.of h1) p1.dp, .lst (.of h2) p2.dp, (ShK.lst p1.sh).ok (by decide), (ShK.lst p2.sh).ok (by decide), q⟩
theorem r_eqPlT {K : PySem.W.Frag} {H : Hp} {Q : VK} {a b : Addr} {xs : List V} {ds : List PyData} (h1 : H a = some (.lst xs)) (h2 : H b = some (.lst xs)) (p : PlAll xs ds) (q : Q (.bl true) H) : gEq K (.ref a) (.ref b) H Q :=
  r_eqSame (.lst (.of h1) p.dp) (.lst (.of h2) p.dp) ((ShK.lst p.sh).ok (by decide)) q
theorem r_nePlT {K : PySem.W.Frag} {H : Hp} {Q : VK} {a b : Addr} {xs : List V} {ds : List PyData} (h1 : H a = some (.lst xs)) (h2 : H b = some (.lst xs)) (p : PlAll xs ds) (q : Q (.bl false) H) : gNe K (.ref a) (.ref b) H Q :=
  r_neSame (.lst (.of h1) p.dp) (.lst (.of h2) p.dp) ((ShK.lst p.sh).ok (by decide)) q
end G
namespace G
open PySem PySem.Spec PySem.Calls PyProof.Rows L2 He
/-! ### isinstance of an own class's instance; in a written tuple -/
theorem call_isiK {X : Cx} {K : PySem.W.Frag} (hK : X.K = K) : CallR X (.builtin "isinstance") (rIsi K) := hK ▸ call_isi
theorem r_isiIns {K : PySem.W.Frag} {H : Hp} {Q : VK} {a C dx : Addr} {fs : List (Str × V)} (h : H a = some (.ins C dx fs)) (c : Cls K C) (n : ClN K C) (q : Q (.bl false) H) : rIsi K [.ref a, .ty "str"] H Q :=
  ⟨_, _, _, _, _, rfl, .ty _, .base (TyOf.ins h c n.ha n.hn n.htk n.hm), n.no, q⟩
theorem r_isiOwn {K : PySem.W.Frag} {H : Hp} {Q : VK} {a C dx : Addr} {fs : List (Str × V)} (h : H a = some (.ins C dx fs)) (c : Cls K C) (n : ClN K C) (q : Q (.bl true) H) : rIsi K [.ref a, .ref C] H Q :=
  ⟨_, _, _, _, _, rfl, .own _, .base (TyOf.ins h c n.ha n.hn n.htk n.hm), (by show (if (Value.ref C == Value.ref C) = true then some true else _) = _; rw [if_pos (beq_self_eq_true _)]), q⟩
theorem r_isiPl {K : PySem.W.Frag} {H : Hp} {Q : VK} {x : V} {t n : String} (h : tyOf x H = some t) (hn : n ∈ (["int", "bool", "str", "list", "tuple", "dict"] : List String)) (q : Q (.bl (isB t n)) H) : rIsi K [x, .ty n] H Q :=
  ⟨_, _, _, _, _, rfl, .ty _, tyOf_ok h, kit_ty (isB_all t (tyOf_in h) _ hn), q⟩
/-- x in a written tuple: flat things; data -/
def rInG (K : PySem.W.Frag) (neg : Bool) : R2 := fun x y H Q => rIn K neg x y H Q ∨ ∃ d ds, Dp K H x d ∧ Dp K H y (.tuple ds) ∧ SeqAt.shaped d = true ∧ SeqAt.shaped (.tuple ds) = true ∧ Q (.bl (if neg then !ds.any fun z => PyData.eqv z d else ds.any fun z => PyData.eqv z d)) H
theorem op_inTG {X : Cx} {K : PySem.W.Frag} (hK : X.K = K) (hu : X.A.units + 65 < cLine) : OpR X (compareOp .In) (rInG K false) := by
  subst hK
  intro pins s σ H x y v u Q I rx ry h
  rcases h with h | ⟨d, ds, hd, he, sd, se, q⟩
  · exact op_in_seq pins s σ H x y v u Q I rx ry h
  obtain ⟨as, r1⟩ := Dp.reads I d x v hd rx
  obtain ⟨bs, r2⟩ := Dp.reads I (.tuple ds) y u he ry
  exact SeqAt.in_tuple_reads r2 r1 (SeqAt.canLay_of_shaped se) (SeqAt.canLay_of_shaped sd) (room_in_shaped sd hu) ⟨.bl _, H, I, rfl, q⟩
theorem op_ninTG {X : Cx} {K : PySem.W.Frag} (hK : X.K = K) (hu : X.A.units + 65 < cLine) : OpR X (compareOp .NotIn) (rInG K true) := by
  subst hK
  intro pins s σ H x y v u Q I rx ry h
  rcases h with h | ⟨d, ds, hd, he, sd, se, q⟩
  · exact op_notIn_seq pins s σ H x y v u Q I rx ry h
  obtain ⟨as, r1⟩ := Dp.reads I d x v hd rx
  obtain ⟨bs, r2⟩ := Dp.reads I (.tuple ds) y u he ry
  exact SeqAt.notIn_tuple_reads r2 r1 (SeqAt.canLay_of_shaped se) (SeqAt.canLay_of_shaped sd) (room_in_shaped sd hu) ⟨.bl _, H, I, rfl, q⟩
end G
namespace G
open PySem PySem.Spec PySem.Calls PyProof.Rows L2 He
theorem hu65 {k : Nat} {A : Around} (r : Room k A) : A.units + 65 < cLine := by have := r.un; omega
theorem hu65N {k : Nat} {A : Around} (r : RoomN k A) : A.units + 65 < cLine := by have := r.un; omega
end G
namespace G
open PySem PySem.Spec PySem.Calls PyProof.Rows L2 He
/-! ### two named except clauses -/
section
variable {X : Cx} {x x2 n : Str} {c c2 : Value} {i : Nat} {body suite suite2 : List Stmt} {b0 b2 : Stmt} {np np2 pos pos' pos2' : Pos} {tb : WX → TS} {ts ts2 : TS} {Wo : WX}
theorem ps_tryT2 (hs : X.stack = X.env :: X.outer) (hf : X.env.frame = some X.env.locals) (hex : X.ex = []) (hN : X.N.Nodup) (hi : X.N[i]? = some n) (hln : X.env.kindOf n = some .local) (hc : Names X x c) (hc2 : Names X x2 c2) (tk : Takes X Wo)
    (hb : ∀ (W : WX) (pn : List (Addr × Obj)) (xe : Value → Shared → Prop), Takes (X.tr pn xe) W → PassesOwn (model X.prog X.w) X.A X.env xe → PSs (X.tr pn xe) body (tb W))
    (hsu : ∀ (a : Addr) (pn : List (Addr × Obj)), PSs (X.suite a pn) (b0 :: suite) ts) (hsu2 : ∀ (a : Addr) (pn : List (Addr × Obj)), PSs (X.suite a pn) (b2 :: suite2) ts2) :
    PS X (.Try body [.ExceptHandler (some (.Name x np)) (some n) (b0 :: suite) pos', .ExceptHandler (some (.Name x2 np2)) (some n) (b2 :: suite2) pos2'] [] [] pos) (fun D σ H => tb (wTr X.K c i ts (wTr X.K c2 i ts2 Wo D) D) D σ H) := by
  refine ⟨fun pins s σ H D I h => ?_⟩
  have ok := I.ok
  have hfr : X.A.frames = some (X.env :: X.outer) := by rw [ok.frames, hs]
  have lo : Loc X.env.scope n := .inl hln
  let rest : List ExceptHandler := [.ExceptHandler (some (.Name x np)) (some n) (b0 :: suite) pos', .ExceptHandler (some (.Name x2 np2)) (some n) (b2 :: suite2) pos2']
  let M := model X.prog X.w
  let wish : Value → Shared → Prop := fun e u1 => wpAny M X.A (noteFrame e X.env) (fun _ u2 => wpAny M X.A (setFlight e none) (fun _ u3 => wpAny M X.A (handleBy e X.env rest) (SP X pins D) X.xe u3) X.xe u2) X.xe u1
  refine wpAny_Try_except (wpAny_mono ((hb (wTr X.K c i ts (wTr X.K c2 i ts2 Wo D) D) (X.pn ++ pins) wish (fun u s' air => ?_) PassesOwn.looking).run [] s σ H D (I.toTry _) h) (fun fl s1 hsp => ?_) (fun e s1 he => he))
  · obtain ⟨a, B, sg, pi', σ1, H1, cls, d, rfl, Jt, nb, up, sky, na, os, ag, b, e1, yes, no⟩ := air
    have J : Inv X pins σ1 H1 sg := Jt.ofTry ok
    have sky' : Sky B (X.env :: X.outer) a (Zc cls d) X.env.locals s'.heap := by rw [← hs]; exact sky
    show wpAny M X.A (noteFrame (.ref a) X.env) _ _ _
    refine Sky.land Zc.steady hfr hf sky' fun h3 fl3 up3 => ?_
    have u3 := up.trans up3
    have J3 : Inv X pins σ1 H1 { s' with heap := h3 } := J.landed nb fl3.1 u3 os ag
    obtain ⟨o3, f3, g3, z3, d3⟩ := fl3.there
    have nfr : a ∉ frs (X.env :: X.outer) := fun hm => by
      obtain ⟨-, o', g', nf⟩ := fl3.2.2.1.mem hm
      rw [g3] at g'
      cases g'
      exact nf _ d3
    have nL : a ≠ X.env.locals := fun z => nfr (List.mem_filterMap.mpr ⟨X.env, List.mem_cons_self, by rw [hf, z]⟩)
    have nst : a ∉ frs X.stack := by rw [hs]; exact nfr
    have nB : B.get? a = none := fl3.2.1
    have ng : sg.heap.get? a = none := by
      cases e : sg.heap.get? a with
      | none => rfl
      | some o =>
        rw [nb a o e nst] at nB
        cases nB
    have n0 : X.s_0.heap.get? a = none := by
      cases e : X.s_0.heap.get? a with
      | none => rfl
      | some o =>
        obtain ⟨o', q⟩ := J.base.there a o e (by rw [hex]; exact List.not_mem_nil)
        rw [ng] at q
        cases q
    have nC : ∀ y z, X.env.cells.lookup y = some z → z ≠ a := fun y z e q => by
      obtain ⟨v, ob, e2, -⟩ := J.cell y z e
      rw [q, ng] at e2
      cases e2
    have nP : ∀ p ∈ X.pn ++ pins, p.1 ≠ a := fun p hp q => by
      have e2 := (J.pin p hp).1
      rw [q, ng] at e2
      cases e2
    have S3 := toSuite J3 a
    refine wpAny_handleBy_cons (codeAny_handlers_test ?_) (by intro q; cases q)
    have LT : PySem.W.Looks M h3 (typeOf (.ref a)) cls := fun _ _ _ _ k q => wpAny_typeOf_ref (k _ _ g3) (by rw [z3.1]; exact q)
    have LM := PySem.W.exm_one (M := M) J3.kIn LT e1
    have test : ∀ {Q : Value → Shared → Prop} {E : Value → Shared → Prop}, Q c { s' with heap := h3 } → wpAny M (X.A.mark (some (.ref a))) (eval (.Name x np) X.env) Q E { s' with heap := h3 } := fun {Q E} q => by
      obtain ⟨hg, hdb, hm | ⟨hm, hv, hnn⟩⟩ := hc
      · exact ld_glob (X := X.suite a (X.pn ++ pins)) S3 hg hm q hdb
      · exact ld_blt (X := X.suite a (X.pn ++ pins)) S3 hg hm hv q hnn hdb
    refine test (LM.here ?_)
    cases b with
    | true =>
      refine codeAny_handlers_suite_as (HandSPX.lands_againZ fl3 fun h4 fl4 up4 => ?_)
      have J4 : Inv X pins σ1 H1 { s' with heap := h4 } := J.landed nb fl4.1 (u3.trans up4) os ag
      obtain ⟨o4, f4, g4, z4, d4⟩ := fl4.there
      obtain ⟨ed, go⟩ := yes rfl
      subst ed
      have J5 := track (u := ExA cls a) J4 na n0 nL nC nP (exA_ok g4 z4 d4)
      refine store_ok (X := X.suite a (X.pn ++ pins)) (v := .ref a) (toSuite J5 a) hN hi lo rfl (fun s5 S5 => ?_) (.inr hln)
      refine wpAny_mono ((hsu a (X.pn ++ pins)).run [] s5 _ _ _ S5 (go a na)) (fun fl s6 hsp => ?_) (fun _ _ z => False.elim z)
      have out : ∀ {σ6 : L2.St} {H6 : Hp} {Q : Shared → Prop}, Inv (X.suite a (X.pn ++ pins)) [] σ6 H6 s6 → (∀ s7, Inv X pins (σ6.set i none) H6 s7 → Q s7) →
          wpAny M X.A (do bindName X.env n .none; unbindBehindTheSuite X.env n pos') (fun _ s7 => Q s7) X.xe s6 := fun S6 hq => gone_ok (ofSuite ok S6) hN hi hln hq
      cases fl with
      | next => exact hsp.elim fun _ z => z.elim fun _ q => out q.1 fun s7 J7 => ⟨_, _, J7, q.2⟩
      | brk => exact hsp.elim fun _ z => z.elim fun _ q => out q.1 fun s7 J7 => ⟨_, _, J7, q.2⟩
      | cont => exact hsp.elim fun _ z => z.elim fun _ q => out q.1 fun s7 J7 => ⟨_, _, J7, q.2⟩
      | ret u =>
        obtain ⟨v6, σ6, H6, S6, r6, q6⟩ := hsp
        exact out S6 fun s7 J7 => ⟨_, _, _, J7, r6, q6⟩
    | false =>
      obtain ⟨b', e1', yes', no'⟩ := no rfl
      refine wpAny_handleBy_cons (codeAny_handlers_test ?_) (by intro q; cases q)
      have LM2 := PySem.W.exm_one (M := M) J3.kIn LT e1'
      have test2 : ∀ {Q : Value → Shared → Prop} {E : Value → Shared → Prop}, Q c2 { s' with heap := h3 } → wpAny M (X.A.mark (some (.ref a))) (eval (.Name x2 np2) X.env) Q E { s' with heap := h3 } := fun {Q E} q => by
        obtain ⟨hg, hdb, hm | ⟨hm, hv, hnn⟩⟩ := hc2
        · exact ld_glob (X := X.suite a (X.pn ++ pins)) S3 hg hm q hdb
        · exact ld_blt (X := X.suite a (X.pn ++ pins)) S3 hg hm hv q hnn hdb
      refine test2 (LM2.here ?_)
      cases b' with
      | true =>
        refine codeAny_handlers_suite_as (HandSPX.lands_againZ fl3 fun h4 fl4 up4 => ?_)
        have J4 : Inv X pins σ1 H1 { s' with heap := h4 } := J.landed nb fl4.1 (u3.trans up4) os ag
        obtain ⟨o4, f4, g4, z4, d4⟩ := fl4.there
        obtain ⟨ed, go⟩ := yes' rfl
        subst ed
        have J5 := track (u := ExA cls a) J4 na n0 nL nC nP (exA_ok g4 z4 d4)
        refine store_ok (X := X.suite a (X.pn ++ pins)) (v := .ref a) (toSuite J5 a) hN hi lo rfl (fun s5 S5 => ?_) (.inr hln)
        refine wpAny_mono ((hsu2 a (X.pn ++ pins)).run [] s5 _ _ _ S5 (go a na)) (fun fl s6 hsp => ?_) (fun _ _ z => False.elim z)
        have out : ∀ {σ6 : L2.St} {H6 : Hp} {Q : Shared → Prop}, Inv (X.suite a (X.pn ++ pins)) [] σ6 H6 s6 → (∀ s7, Inv X pins (σ6.set i none) H6 s7 → Q s7) →
            wpAny M X.A (do bindName X.env n .none; unbindBehindTheSuite X.env n pos2') (fun _ s7 => Q s7) X.xe s6 := fun S6 hq => gone_ok (ofSuite ok S6) hN hi hln hq
        cases fl with
        | next => exact hsp.elim fun _ z => z.elim fun _ q => out q.1 fun s7 J7 => ⟨_, _, J7, q.2⟩
        | brk => exact hsp.elim fun _ z => z.elim fun _ q => out q.1 fun s7 J7 => ⟨_, _, J7, q.2⟩
        | cont => exact hsp.elim fun _ z => z.elim fun _ q => out q.1 fun s7 J7 => ⟨_, _, J7, q.2⟩
        | ret u =>
          obtain ⟨v6, σ6, H6, S6, r6, q6⟩ := hsp
          exact out S6 fun s7 J7 => ⟨_, _, _, J7, r6, q6⟩
      | false =>
        show wpAny M X.A (handleBy (.ref a) X.env []) _ _ _
        refine wpAny_handleBy_nil ?_
        obtain ⟨-, -, -, oe, vs, T, oT, ts', he, hz, hd, h1, hr⟩ := id fl3
        unfold PySem.passOn
        refine wpAny_bind (wpAny_field he hd h1 ?_)
        rw [if_neg (show ¬ ((Value.ref T == Value.none) = true) from by simp)]
        have fin : wpAny M X.A (setFlight (.ref a) X.env.frame) (fun _ u4 => wpAny M X.A (throw (.ref a) : Sem Flow) (SP X pins D) X.xe u4) X.xe { s' with heap := h3 } := by
          rw [hf]
          refine HandSPX.setFlight_upZ fl3 fun h4 hh4 up4 => wpAny_throw (tk _ _ ?_)
          exact ⟨a, B, sg, pins, σ1, H1, cls, d, rfl, J, nb, u3.trans up4, .inr (.inr (by rw [hs]; exact hh4)), na, os, ag, no' rfl⟩
        first
          | exact wpAny_bind (wpAny_pure (wpAny_bind fin))
          | exact wpAny_bind fin
  · cases fl with
    | next => exact hsp.elim fun σ1 z => z.elim fun H1 q => wpAny_execs_nil ⟨σ1, H1, q.1.ofTry ok, q.2⟩
    | brk => exact hsp.elim fun σ1 z => z.elim fun H1 q => ⟨σ1, H1, q.1.ofTry ok, q.2⟩
    | cont => exact hsp.elim fun σ1 z => z.elim fun H1 q => ⟨σ1, H1, q.1.ofTry ok, q.2⟩
    | ret u =>
      obtain ⟨v, σ1, H1, J, r, q⟩ := hsp
      exact ⟨v, σ1, H1, J.ofTry ok, r, q⟩
end

section
variable {fa : List Fa} {fn : List DefD} {xl : XL} {K : PySem.W.Frag} {mg : Str → Option Value}
theorem Told.missed (T : Told fa fn xl K mg) {d c : Str} {i : Nat} {ts : TS} {Wo : WX} {D : Ends} {σ : L2.St} {H : Hp} (hd : d ∈ xl.ex) (hc : c ∈ xl.ex) (hu : under d c = false) (h : Wo (.ref (ga K d)) none σ H) :
    wTr K (.ref (ga K c)) i ts Wo D (.ref (ga K d)) none σ H :=
  ⟨false, by rw [((T.err hd).2.2 c hc).2, hu], (fun z => by cases z), (fun _ => h)⟩
theorem Told.caughtU (T : Told fa fn xl K mg) {d c : Str} {ts : Addr → Value → Option Addr → TS} {r : List (Value × (Addr → Value → Option Addr → TS))} {Wo : WX} {D : Ends} {σ : L2.St} {H : Hp} (hd : d ∈ xl.ex) (hc : c ∈ xl.ex) (hu : under d c = true)
    (h : ∀ a, H a = none → ts a (.ref (ga K d)) none D σ H) : wMany K Wo D ((.ref (ga K c), ts) :: r) (.ref (ga K d)) none σ H :=
  ⟨true, by rw [((T.err hd).2.2 c hc).2, hu], (fun _ => h), (fun z => by cases z)⟩
theorem Told.missedU (T : Told fa fn xl K mg) {d c : Str} {ts : Addr → Value → Option Addr → TS} {r : List (Value × (Addr → Value → Option Addr → TS))} {Wo : WX} {D : Ends} {σ : L2.St} {H : Hp} (hd : d ∈ xl.ex) (hc : c ∈ xl.ex) (hu : under d c = false)
    (h : wMany K Wo D r (.ref (ga K d)) none σ H) : wMany K Wo D ((.ref (ga K c), ts) :: r) (.ref (ga K d)) none σ H :=
  ⟨false, by rw [((T.err hd).2.2 c hc).2, hu], (fun z => by cases z), (fun _ => h)⟩
end
end G
namespace G
open PySem PySem.Spec PySem.Calls PyProof.Rows L2 He
/-! ### for k in d -/
def LockW (t : TS) (D : Ends) (σ : L2.St) (H : Hp) : Prop := tLock t D σ H
section
variable {t : TS} {D : Ends} {σ : L2.St} {H : Hp} {d : Addr} {kvs : List (Key × V)} {td : TE} {R : It → Hp → Prop} {o : Obj} {g : TG} {tb : TS}
theorem x_lock : tLock t D σ H = LockW t D σ H := rfl
theorem lockD (hd : H d = some (.dK kvs)) (h : ∀ od, t ⟨fun σ' H' => H' d = some (.frz od (.dK kvs)) ∧ D.nx σ' (upd H' d (.dK kvs)), fun v H' => H' d = some (.frz od (.dK kvs)) ∧ D.rt v (upd H' d (.dK kvs)), fun σ' H' => H' d = some (.frz od (.dK kvs)) ∧ D.bk σ' (upd H' d (.dK kvs)), fun σ' H' => H' d = some (.frz od (.dK kvs)) ∧ D.ct σ' (upd H' d (.dK kvs))⟩ σ (upd H d (.frz od (.dK kvs)))) : LockW t D σ H := ⟨d, _, hd, trivial, h⟩
theorem x_keys : iKeys td σ H R = td σ H fun x H1 => ∃ d o, x = .ref d ∧ ((∃ kvs, H1 d = some (.frz o (.dK kvs)) ∧ R (Itk d o kvs) H1) ∨ ∃ kvs, H1 d = some (.frz o (.dT kvs)) ∧ R (Itkt d o kvs) H1) := rfl
theorem forW_keys (Pv : Nat → L2.St → Hp → Prop) (h0 : Pv 0 σ H) (hG : ∀ i σ H, i ≤ kvs.length → Pv i σ H → H d = some (.frz o (.dK kvs)))
    (hs : ∀ i k v σ H, kvs[i]? = some (k, v) → Pv i σ H → g (kV k) σ H fun σ2 H2 => tb { D with nx := Pv (i + 1), ct := Pv (i + 1), bk := D.nx } σ2 H2) (hd : ∀ σ H, Pv kvs.length σ H → D.nx σ H) : ForW (Itk d o kvs) g tb D σ H :=
  for_it walk_keys Pv h0 hG (fun i x σ H H' hi p y => by
    obtain ⟨rfl, k, v, e, rfl⟩ := y
    exact hs i k v σ _ e p) hd
theorem dget_f {i : Int} (h : H d = some (.frz o (.dK kvs))) : DGet H d (.int i) (valV kvs (.inl i : Key)) := .inl ⟨kvs, .inl i, .inr ⟨o, h⟩, rfl, rfl⟩
end
end G
namespace G
open PySem PySem.Spec PySem.Calls PyProof.Rows L2 He
/-! ### == of dicts, dict(d), xs.pop(i) -/
section
variable {X : Cx} {σ : L2.St} {H : Hp} {Q : VK}
def gEqDD : R2 := fun x y H Q => ∃ a b kvs kvs', x = .ref a ∧ y = .ref b ∧ H a = some (.dK kvs) ∧ H b = some (.dK kvs') ∧ ((kvs = kvs' ∧ (kvs.map (·.1)).Nodup ∧ (∀ p ∈ kvs, flatB p.2 = true) ∧ Q (.bl true) H) ∨ (kvs.length ≠ kvs'.length ∧ Q (.bl false) H))
def gNeDD : R2 := fun x y H Q => ∃ a b kvs kvs', x = .ref a ∧ y = .ref b ∧ H a = some (.dK kvs) ∧ H b = some (.dK kvs') ∧ ((kvs = kvs' ∧ (kvs.map (·.1)).Nodup ∧ (∀ p ∈ kvs, flatB p.2 = true) ∧ Q (.bl false) H) ∨ (kvs.length ≠ kvs'.length ∧ Q (.bl true) H))
theorem op_eqDD (hu : X.A.units < cLine) : OpR X (compareOp .Eq) gEqDD := by
  intro pins s σ H x y v u Q I rx ry h
  obtain ⟨a, b, kvs, kvs', rfl, rfl, ea, eb, h⟩ := h
  obtain rfl : v = Value.ref a := rx
  obtain rfl : u = Value.ref b := ry
  obtain ⟨_, ya, va, ra, da⟩ := (show ObjOk X.prog X.w H s.heap a (.dK kvs) from I.hok a _ ea)
  obtain ⟨_, yb, vb, rb, db⟩ := (show ObjOk X.prog X.w H s.heap b (.dK kvs') from I.hok b _ eb)
  rcases h with ⟨rfl, nd, fl, q⟩ | ⟨ne, q⟩
  · have hl : va.length = vb.length := ra.length.symm.trans rb.length
    exact PySem.W.keq_eq (knd := mixKind X.prog X.w) (r := true) ya yb da db hu (fun _ => hits_all rb ra fun p hp => ⟨val_nodup nd p hp, fl p hp⟩) (fin_bl I q (by simp [hl]))
  · have hl : va.length ≠ vb.length := fun z => ne (ra.length.trans (z.trans rb.length.symm))
    exact PySem.W.keq_eq (knd := mixKind X.prog X.w) (r := true) ya yb da db hu (fun z => absurd z hl) (fin_bl I q (by simp [hl]))
theorem op_neDD (hu : X.A.units < cLine) : OpR X (compareOp .NotEq) gNeDD := by
  intro pins s σ H x y v u Q I rx ry h
  obtain ⟨a, b, kvs, kvs', rfl, rfl, ea, eb, h⟩ := h
  obtain rfl : v = Value.ref a := rx
  obtain rfl : u = Value.ref b := ry
  obtain ⟨_, ya, va, ra, da⟩ := (show ObjOk X.prog X.w H s.heap a (.dK kvs) from I.hok a _ ea)
  obtain ⟨_, yb, vb, rb, db⟩ := (show ObjOk X.prog X.w H s.heap b (.dK kvs') from I.hok b _ eb)
  rcases h with ⟨rfl, nd, fl, q⟩ | ⟨ne, q⟩
  · have hl : va.length = vb.length := ra.length.symm.trans rb.length
    exact PySem.W.keq_ne (knd := mixKind X.prog X.w) (r := true) ya yb da db hu (fun _ => hits_all rb ra fun p hp => ⟨val_nodup nd p hp, fl p hp⟩) (fin_bl I q (by simp [hl]))
  · have hl : va.length ≠ vb.length := fun z => ne (ra.length.trans (z.trans rb.length.symm))
    exact PySem.W.keq_ne (knd := mixKind X.prog X.w) (r := true) ya yb da db hu (fun z => absurd z hl) (fin_bl I q (by simp [hl]))
theorem r_eqDD {a b : Addr} {kvs : List (Key × V)} (h1 : H a = some (.dK kvs)) (h2 : H b = some (.dK kvs)) (nd : (kvs.map (·.1)).Nodup) (fl : ∀ p ∈ kvs, flatB p.2 = true) (q : Q (.bl true) H) : gEqDD (.ref a) (.ref b) H Q := ⟨a, b, kvs, kvs, rfl, rfl, h1, h2, .inl ⟨rfl, nd, fl, q⟩⟩
theorem r_neDD {a b : Addr} {kvs : List (Key × V)} (h1 : H a = some (.dK kvs)) (h2 : H b = some (.dK kvs)) (nd : (kvs.map (·.1)).Nodup) (fl : ∀ p ∈ kvs, flatB p.2 = true) (q : Q (.bl false) H) : gNeDD (.ref a) (.ref b) H Q := ⟨a, b, kvs, kvs, rfl, rfl, h1, h2, .inl ⟨rfl, nd, fl, q⟩⟩
theorem r_eqDL {a b : Addr} {kvs kvs' : List (Key × V)} (h1 : H a = some (.dK kvs)) (h2 : H b = some (.dK kvs')) (ne : kvs.length ≠ kvs'.length) (q : Q (.bl false) H) : gEqDD (.ref a) (.ref b) H Q := ⟨a, b, kvs, kvs', rfl, rfl, h1, h2, .inr ⟨ne, q⟩⟩
def rDictD : List V → Hp → VK → Prop := fun xs H Q => ∃ (a : Addr) (kvs : List (Key × V)), xs = [.ref a] ∧ Rd H a (.dK kvs) ∧ ∀ p, H p = none → Q (.ref p) (upd H p (.dK kvs))
theorem call_dictDK : CallR X (.type "dict") rDictD := call_dictD
theorem r_isiD {a : Addr} {kvs : List (Key × V)} (h : H a = some (.dK kvs)) (q : Q (.bl true) H) : gIsi [.ref a, .ty "dict"] H Q := r_isi (t := "dict") (by show tyO (H a) = _; rw [h]; rfl) q
def rLenDD : List V → Hp → VK → Prop := fun xs H Q => ∃ a kvs, xs = [V.ref a] ∧ H a = some (.dK kvs) ∧ Q (.int kvs.length) H
theorem call_lenDD : CallR X (.builtin "len") rLenDD := call_lenD
theorem r_lenDD {a : Addr} {kvs : List (Key × V)} (h : H a = some (.dK kvs)) (q : Q (.int (kvs.length : Int)) H) : rLenDD [.ref a] H Q := ⟨_, _, rfl, h, q⟩
theorem r_popAt {a : Addr} {xs : List V} {i : Nat} {y : V} (h : H a = some (.lst xs)) (hi : xs[i]? = some y) (hs : xs.length ≤ sizeLine) (q : Q y (upd H a (.lst (xs.eraseIdx i)))) : rPopAt (.ref a) [.int (i : Int)] H Q := by
  have hl := (List.getElem?_eq_some_iff.mp hi).1
  have sz := sizeLine_eq
  refine ⟨a, xs, _, i, y, rfl, rfl, h, by omega, by omega, ?_, hi, q⟩
  unfold seqIndex?
  simp only [if_neg (show ¬ ((i : Int) < 0) by omega)]
  rw [if_pos (by rw [Bool.and_eq_true, decide_eq_true_eq, decide_eq_true_eq]; omega), Int.toNat_natCast]
theorem cutV_one {xs : List V} : cutV xs (some 1) none = xs.drop 1 := by
  have e : HT.sIx xs.length 0 (some 1) = min 1 xs.length := HT.sIx_nat _ _ 1
  unfold cutV
  rw [e, HT.sIx_none]
  cases xs with
  | nil => rfl
  | cons x r =>
    have e : min 1 (x :: r).length = 1 := by rw [List.length_cons]; omega
    rw [e]
    show (r.take (r.length + 1 - 1)) = r
    rw [Nat.add_sub_cancel, List.take_length]
/-! ### zip -/
theorem x_zip {ta : TA} {R : It → Hp → Prop} {K : PySem.W.Frag} : iZip K ta σ H R = ta σ H fun vs H1 => ∃ a b xs ys, vs = [.ref a, .ref b] ∧ SqL K H1 a xs ∧ SqL K H1 b ys ∧ R (Itz K a b) H1 := rfl
theorem forW_zip {K : PySem.W.Frag} {g : TG} {tb : TS} {D : Ends} {a b : Addr} {xs ys : List V} (Pv : Nat → L2.St → Hp → Prop) (h0 : Pv 0 σ H) (hG : ∀ i σ H, i ≤ min xs.length ys.length → Pv i σ H → SqL K H a xs ∧ SqL K H b ys)
    (hs : ∀ i x y T σ H, xs[i]? = some x → ys[i]? = some y → H T = none → Pv i σ H → g (.ref T) σ (upd H T (.tup [x, y])) fun σ2 H2 => tb { D with nx := Pv (i + 1), ct := Pv (i + 1), bk := D.nx } σ2 H2) (hd : ∀ σ H, Pv (min xs.length ys.length) σ H → D.nx σ H) : ForW (Itz K a b) g tb D σ H :=
  for_it (walk_zip rfl) Pv h0 hG (fun i x σ H H' hi p y => by
    obtain ⟨T, u, v, rfl, nT, rfl, e1, e2⟩ := y
    exact hs i u v T σ H e1 e2 nT p) hd
end
end G
namespace G
open PySem PySem.Spec PySem.Calls PyProof.Rows L2 He
/-! ### a comprehension whose item may raise -/
/-- what is wanted behind a block that began in env: an error goes on in env's frame -/
def PostX (M : Model) (A : Around) (E : Value → Shared → Prop) (env : Env) (Q : Value → Shared → Prop) (acc : Value) (C : Addr) : Result → Shared → Prop
  | .ok _, t => ∃ m, t.heap.Ns C m ∧ ∀ h', Heap.SameBut C t.heap h' → Q acc { t with heap := h' }
  | .error x, t => ∃ m, t.heap.Ns C m ∧ ∀ h', Heap.SameBut C t.heap h' → ∀ ce : Env, ce.locals = C → ce.frame = env.frame → wpAny M A (PySem.passOn "comprehension.variables-let-go" x ce : Sem Value) (fun _ _ => False) E { t with heap := h' }
section
variable {M : Model} {A : Around} {E : Value → Shared → Prop} {s : Shared} {env : Env}
theorem compX {e : Expr} {scope : Scope} {pos : Pos} {new fst : Sem Value} {g : Comprehension} {gs : List Comprehension} {cl : List (Str × Addr)} {Q : Value → Shared → Prop}
    (c1 : clausesOf e = g :: gs) (c2 : ∀ x, foldedSetIterable g.iter env x = pure x) (c3 : closureFor scope env = pure cl) (c4 : scope.kind = .function) (c5 : ∀ x ∈ scope.names, x.2 = .local → scope.names.lookup x.1 = some .local)
    (c6 : wpAny M A fst (fun x s1 => wpAny M A (pyIter x) (fun it s2 => wpAny M A new (fun acc s3 => wpAny M A (newFunctionEnv scope env.globals cl [] env.qual none .none (some env)) (fun ce s4 => ce.frame = env.frame ∧
        codeAny M A (.compStart e 0 it acc { ce with scope := relabel scope env }) (PostX M A E env Q acc ce.locals) s4) E s3) E s2) E s1) E s) :
    wpAny M A (comprehension e scope env pos new false fst none) Q E s := by
  have again : ∀ {α : Type} {m : Sem α} {R R' : α → Shared → Prop} {t : Shared}, wpAny M A m R E t → (∀ a u, R a u → R' a u) → wpAny M A m R' E t := fun k f => wpAny_mono k f fun _ _ z => z
  unfold comprehension
  rw [c3, c1]
  refine wpAny_bind (again c6 fun x s1 k1 => wpAny_bind (wpAny_standAt (wpAny_bind (wpAny_of_eq (c2 x) (wpAny_bind (wpAny_holding (again k1 fun it s2 k2 => ?_)))))))
  refine wpAny_standIf (wpAny_bind (again k2 fun acc s3 k3 => wpAny_bind (wpAny_pure (wpAny_bind (again k3 fun ce s4 k4 => ?_)))))
  obtain ⟨fr, k4⟩ := k4
  dsimp only
  have see : ∀ y ∈ (scope.names.filter fun y => (y.2 == .local || y.2 == .cell) && y.1 != (".0" : Str)).reverse, y.2 = .local → Env.kindOf { ce with scope := relabel scope env } y.1 = some .local := fun y hy hl =>
    lookup_relabel_local (c5 y (List.mem_filter.mp (List.mem_reverse.mp hy)).1 hl)
  refine wpAny_holding (wpAny_bind (wpAny_attempt (wpAny_holding (wpAny_run (codeAny_mono k4 fun r t k5 => ?_)))))
  cases r with
  | ok f =>
    obtain ⟨m, n5, k6⟩ := k5
    exact wpAny_bind (wpAny_holding (wpAny_comp_letGo (cenv := { ce with scope := relabel scope env }) c4 _ t m see n5 fun h' m' _ z => wpAny_pure (k6 h' z)))
  | error x =>
    obtain ⟨m, n5, k6⟩ := k5
    exact wpAny_bind (wpAny_holding (wpAny_comp_letGo (cenv := { ce with scope := relabel scope env }) c4 _ t m see n5 fun h' m' _ z => wpAny_mono (k6 h' z _ rfl fr) (fun _ _ f => f.elim) fun _ _ y => y))
end
section
variable {M : Model} {A : Around} {E : Value → Shared → Prop} {s : Shared} {Z : Obj → Prop} {base : Heap} {env : Env} {outer : List Env} {L e : Addr}
/-- a frame is noted behind another one -/
theorem look_fromZ {fl : Value} {Q : Unit → Shared → Prop} (hZ : HandSPX.Steady Z) (fr : A.frames = some (env :: outer)) (ef : env.frame = some L) (b1 : base.StaysIn s.heap) (b2 : base.get? e = none) (b3 : s.heap.FunFrames base (env :: outer))
    (tr : HandSPX.TracedZ s.heap base e Z fl) (ne : (fl == rawInt L) = false) (hQ : ∀ h', HandSPX.HeldZ base (env :: outer) e Z L h' → s.heap.UpToSlots h' → Q () { s with heap := h' }) : wpAny M A (noteFrame (.ref e) env) Q E s := by
  obtain ⟨oe, vs, T, oT, ts, he, hz, hd, h1, hnT, hTe, hT, hdT, h3⟩ := tr
  unfold noteFrame
  simp only [ef]
  refine wpAny_bind (wpAny_field he hd h1 ?_)
  rw [if_pos (by simp : (Value.ref T != Value.none) = true)]
  refine wpAny_bind (wpAny_field hT hdT h3 ?_)
  rw [if_neg (by rw [ne]; exact Bool.false_ne_true : ¬ ((fl == rawInt L) = true))]
  refine wpAny_bind (wpAny_setField hT hdT (Array.getElem?_eq_some_iff.mp h3).1 ?_)
  have off : ∀ b, b ≠ T → (s.heap.update T (Obj.mapFields (·.setIfInBounds 3 Value.none))).get? b = s.heap.get? b := fun b n => Heap.get?_update_other _ _ n.symm
  have plain : ∀ b o, s.heap.get? b = some o → (∀ v, o.data ≠ .fields v) → b ≠ T := fun b o g n q => by
    rw [q, hT] at g
    cases g
    exact n ts hdT
  refine HandSPX.wpAny_entryZ hZ fr (b3.of_keeps fun b o g n => ⟨o, (off b (plain b o g n)).trans g, rfl⟩) ef ((off e hTe.symm).trans he)
    (fun b o g => (off b fun q => by rw [q, hnT] at g; cases g).trans (b1 b o g)) b2 hd (Array.getElem?_eq_some_iff.mp h1).1 hz fun h' nt => ?_
  obtain ⟨x1, x2, x3, x4⟩ := nt
  exact hQ h' ⟨x1, b2, x2, x3⟩ fun b o g n => x4 b o ((off b (plain b o g n)).trans g) n
theorem funFrames_off {base base' h h' : Heap} {C : Addr} (k : ∀ b o, b ≠ C → h.get? b = some o → h'.get? b = some o) (kb : ∀ b, base.get? b = none → base'.get? b = none) : ∀ {l : List Env}, h.FunFrames base l → C ∉ frs l → h'.FunFrames base' l
  | [], _, _ => trivial
  | env :: l, ff, nC => by
    obtain ⟨hk, ⟨L, o, hf, hb, ho, hd⟩, hr⟩ := ff
    have nL : L ≠ C := fun z => nC (List.mem_filterMap.mpr ⟨env, List.mem_cons_self, by rw [hf, z]⟩)
    exact ⟨hk, ⟨L, o, hf, kb L hb, k L o nL ho, hd⟩, funFrames_off k kb hr fun m => by
      obtain ⟨e, he, q⟩ := List.mem_filterMap.mp m
      exact nC (List.mem_filterMap.mpr ⟨e, List.mem_cons_of_mem _ he, q⟩)⟩
end
/-- the context of a block that may raise -/
abbrev blkX (X : Cx) (s : Shared) (H : Hp) (scope : Scope) (ce : Env) (fp : List Addr) (xe : Value → Shared → Prop) : Cx := { X.blk s H scope ce fp with xe := xe }
theorem blkX_inv {X : Cx} {s : Shared} {H : Hp} {scope : Scope} {ce : Env} {fp : List Addr} {xe : Value → Shared → Prop} {pins : List (Addr × Obj)} {σ : L2.St} {H' : Hp} {t : Shared} (I : Inv (X.blk s H scope ce fp) pins σ H' t) : Inv (blkX X s H scope ce fp xe) pins σ H' t :=
  ⟨⟨I.ok.mod, I.ok.kind, I.ok.glob, I.ok.blt, I.ok.above, I.ok.inj, I.ok.has, I.ok.cab, I.ok.hd, I.ok.frames, I.ok.stk, I.ok.exf, I.ok.bs, I.ok.bsz, I.ok.noex, I.ok.exfs, I.ok.funs, I.ok.frf⟩, I.os, I.bare, I.base, I.loc, I.cell, I.free, I.freeC, I.pin, I.hok, I.len⟩
/-- an error leaves a block -/
theorem blk_err {X : Cx} {pins0 : List (Addr × Obj)} {σ : L2.St} {H3 : Hp} {s3 : Shared} {scope : Scope} {ce : Env} {fp : List Addr} {xe : Value → Shared → Prop} {Eo : XK} {Q : Value → Shared → Prop} {acc u : Value} {t : Shared} {E1 : Value → Shared → Prop}
    (hs : X.stack = X.env :: X.outer) (hf : X.env.frame = some X.env.locals) (I3 : Inv X pins0 σ H3 s3) (f3 : ∀ b ∈ fp, FpOk X pins0 H3 b) (cL : ce.locals = s3.heap.objs.size) (cf : ce.frame = X.env.frame)
    (tk : Takes X fun c d _ H => Eo c d H) (x : XE (blkX X s3 H3 scope ce fp xe) (fun c d _ H => Eo c d H) u t) :
    wpAny (model X.prog X.w) X.A (noteFrame u ce) (fun _ t' => PostX (model X.prog X.w) X.A X.xe X.env Q acc s3.heap.objs.size (.error u) t') E1 t := by
  obtain ⟨a, B, sI, pins, σ', H', cls, d, rfl, I, nb, up, sky, na, os, ag, w⟩ := x
  have fr : X.A.frames = some (X.env :: X.outer) := by rw [I3.ok.frames, hs]
  have J : Inv X pins0 σ H' sI := I3.call' (ch := fp) I.os I.base I.hok I.bare fun b hb => ⟨(f3 b hb).2.2.2.1, (f3 b hb).2.1, (f3 b hb).2.2.2.2.1, (f3 b hb).2.2.2.2.2⟩
  have free : H' ce.locals = none := I.free
  obtain ⟨m, ns, -⟩ := I.loc
  have ns : sI.heap.Ns ce.locals m := ns
  rw [cL] at free ns
  generalize hC : s3.heap.objs.size = C at free ns cL ⊢
  have fC : FpOk X pins0 H' C := I3.fpOk (Nat.le_of_eq hC) free
  have Cst : C ∉ frs X.stack := by
    rw [hs]
    intro z
    obtain ⟨v, hv, q⟩ := List.mem_filterMap.mp z
    rcases List.mem_cons.mp hv with rfl | hv
    · rw [hf] at q
      exact fC.2.1 (Option.some.inj q).symm
    · exact fC.2.2.1 (List.mem_filterMap.mpr ⟨v, hv, q⟩)
  obtain ⟨oC, es, ep, gC, rC⟩ := ns
  have bC : B.get? C = some oC := nb C oC gC Cst
  have en : (noteFrame (.ref a) ce : Sem Unit) = noteFrame (.ref a) X.env := by
    unfold noteFrame PySem.frameOf
    rw [cf]
  rw [en]
  have go : ∀ h1, HandSPX.HeldZ B (X.env :: X.outer) a (Zc cls d) X.env.locals h1 → t.heap.UpToSlots h1 → PostX (model X.prog X.w) X.A X.xe X.env Q acc C (.error (.ref a)) { t with heap := h1 } := fun h1 hh up1 => by
    obtain ⟨b1, b2, b3, oe, vs, T, oT, ts, he, hz, hd, h1', hnT, hTe, hT, hdT, h3⟩ := hh
    refine ⟨m, ⟨oC, es, ep, b1 _ _ bC, rC⟩, fun h' sb ce' e1 e2 => ?_⟩
    have aC : a ≠ C := fun z => by rw [z, bC] at b2; cases b2
    have TC : T ≠ C := fun z => by rw [z, bC] at hnT; cases hnT
    have off : ∀ b o, b ≠ C → h1.get? b = some o → h'.get? b = some o := fun b o n g => (sb.2 b n).trans g
    have hid : ∀ b, B.get? b = none → (PySem.W.hideAll B [C]).get? b = none := fun b g => by
      cases q : (PySem.W.hideAll B [C]).get? b with
      | none => rfl
      | some o => rw [PySem.W.of_hideAll _ q] at g; cases g
    have hidC : ∀ {h : Heap} {b o}, (PySem.W.hideAll h [C]).get? b = some o → b ≠ C := fun {h b o} g z => by
      rw [z, PySem.W.hideAll_none [C] (List.mem_singleton_self C)] at g
      cases g
    unfold PySem.passOn
    refine wpAny_bind (wpAny_field (off a oe aC he) hd h1' ?_)
    rw [if_neg (by simp : ¬ ((Value.ref T == Value.none) = true))]
    have fin : wpAny (model X.prog X.w) X.A (setFlight (.ref a) ce'.frame) (fun _ u4 => wpAny (model X.prog X.w) X.A (throw (.ref a) : Sem Value) (fun _ _ => False) X.xe u4) X.xe { t with heap := h' } := by
      rw [e2, hf]
      refine HandSPX.setFlight_anyZ (base := PySem.W.hideAll B [C]) (l := X.env :: X.outer) (Z := Zc cls d) (fl := rawInt X.env.locals) (fun b o g => off b o (hidC g) (b1 b o (PySem.W.of_hideAll _ g))) (funFrames_off off hid b3 (by rw [← hs]; exact Cst))
        ⟨oe, vs, T, oT, ts, off a oe aC he, hz, hd, h1', hid T hnT, hTe, off T oT TC hT, hdT, h3⟩ fun h4 k1 k2 k3 k4 => wpAny_throw (tk _ _ ?_)
      have J' : Inv X pins0 σ H' { sI with heap := PySem.W.hideAll sI.heap [C], toks := sI.toks } := J.turned (it := C) (fun b o n g => PySem.W.hideAll_get [C] g (fun z => n (List.mem_singleton.mp z))) free fC.2.1 fC.2.2.2.1 fC.2.2.2.2.1 fC.2.2.2.2.2
      refine ⟨a, PySem.W.hideAll B [C], _, pins0, σ, H', cls, d, rfl, J', fun b o g n => ?_, fun b o g nf => ?_, .inr (.inr (by rw [hs]; exact ⟨k1, hid a b2, k2, k3⟩)), na, os, ag, w⟩
      · exact PySem.W.hideAll_get [C] (nb b o (PySem.W.of_hideAll _ g) n) fun z => hidC g (List.mem_singleton.mp z)
      · have bn := hidC g
        obtain ⟨l1, g1⟩ := up b o (PySem.W.of_hideAll _ g) nf
        obtain ⟨l2, g2⟩ := up1 b _ g1 nf
        obtain ⟨l4, g4⟩ := k4 b _ (off b _ bn g2) nf
        exact ⟨l4, g4⟩
    first
      | exact wpAny_bind (wpAny_pure (wpAny_bind fin))
      | exact wpAny_bind fin
  rw [hs] at sky
  rcases sky with ⟨hB, hn, hl, oe, vs, he, hz, hd, h1⟩ | fl | hh
  · exact HandSPX.look_newZ Zc.steady fr hl hf he hB hn hd h1 hz go
  · exact HandSPX.looks_onZ Zc.steady fr hf fl go
  · obtain ⟨b1, b2, b3, b4⟩ := hh
    refine look_fromZ Zc.steady fr hf b1 b2 b3 b4 ?_ go
    have ne : ce.locals ≠ X.env.locals := by rw [cL]; exact fC.2.1
    simp [rawInt]
    exact fun z => ne (Int.ofNat.inj z)
/-- [elt for tg in iter if ..], of which elt may raise -/
theorem pe_lcX {X : Cx} {elt tg iter : Expr} {ifs : List Expr} {scope : Scope} {own : List (Str × Nat)} {pos : Pos} {wi : TI} {g : TG} {tt : TT} {te : XK → TE} {Eo : XK} (tk : Takes X fun c d _ H => Eo c d H) (es : X.stack = X.env :: X.outer) (ef : X.env.frame = some X.env.locals) (hc : X.calm = true)
    (hN : X.N.Nodup) (hi : PI X tg iter wi) (ok : BlkOk X.N X.env.scope scope own) (hg : ∀ (s : Shared) (H : Hp) (C : Addr) (cl : List (Str × Addr)) (fp : List Addr) (xe : Value → Shared → Prop), PG (blkX X s H scope (compEnvC scope cl C X.env) fp xe) tg g)
    (ht : ∀ (s : Shared) (H : Hp) (C : Addr) (cl : List (Str × Addr)) (fp : List Addr) (xe : Value → Shared → Prop), PTs (blkX X s H scope (compEnvC scope cl C X.env) fp xe) ifs tt)
    (he : ∀ (s : Shared) (H : Hp) (C : Addr) (cl : List (Str × Addr)) (fp : List Addr) (xe : Value → Shared → Prop) (E : XK), Takes (blkX X s H scope (compEnvC scope cl C X.env) fp xe) (fun c d _ H => E c d H) → PE (blkX X s H scope (compEnvC scope cl C X.env) fp xe) elt (te E))
    (hset : ∀ x, foldedSetIterable iter X.env x = pure x := by intro _; rfl) : PE X (.ListComp elt [⟨tg, iter, ifs, 0⟩] scope pos) (tLc wi g tt (te Eo) (own.map (·.2))) := by
  refine ⟨fun pins s σ H Q I h => ?_⟩
  rw [eval_ListComp]
  have clo : ∀ y ∈ scope.names, y.2 = .free → ∃ c, X.env.cells.lookup y.1 = some c := fun y hy e => (ok.free y hy e).elim (fun k => I.ok.has _ (.inl k)) fun k => I.ok.has _ (.inr k)
  refine compX rfl hset (closure_ok clo) ok.kind (fun y hy z => by rw [ok.uniq y hy, z]) (thn (hi.run pins s σ H _ I h) fun xv t1 hx => thn hx fun itv t2 h2 => ?_)
  obtain ⟨it, fp, tn, J, H2, e, I2, T, st2, f2, q⟩ := h2
  subst e
  refine wpAny_newObj_type (newEnv_comp ⟨rfl, ?_⟩) (by show 0 ≤ sizeLine; decide)
  generalize eD : t2.heap.objs.size = D
  obtain ⟨W, ⟨m0, w0⟩, turn⟩ := q D (I2.hok.fresh (Nat.le_of_eq eD))
  generalize e3 : ({ t2 with heap := t2.heap.push { cls := .type "list", data := .seq ([] : List Value).toArray } } : Shared) = t3
  have g3 : t3.heap = t2.heap.push { cls := .type "list", data := .seq ([] : List Value).toArray } := by rw [← e3]
  have I3 : Inv X pins σ (upd H2 D (.lst [])) t3 := by
    rw [← e3]
    refine I2.laid (t' := t2.toks) (fun b o g => Heap.get?_push_of_some _ g) (Nat.le_of_eq eD) ⟨Nat.zero_le _, [], 0, .nil, ?_⟩
    rw [← eD]
    exact Heap.get?_push_size _ rfl
  have lt2 : ∀ b ∈ fp, b < t2.heap.objs.size := fun b hb => let ⟨o, e, _⟩ := T.obj _ _ st2 b hb; Heap.lt_size e
  have f3 : ∀ b ∈ fp, FpOk X pins (upd H2 D (.lst [])) b ∧ b < t3.heap.objs.size := fun b hb => by
    have hl := lt2 b hb
    refine ⟨⟨?_, (f2 b hb).2⟩, by rw [g3, Heap.size_push]; exact Nat.lt_succ_of_lt hl⟩
    rw [upd_ne (by rw [← eD]; exact Nat.ne_of_lt hl)]
    exact (f2 b hb).1
  have st3 : tn 0 t3.heap := T.keep _ _ _ st2 fun b _ o g => by rw [g3]; exact Heap.get?_push_of_some _ g
  have I4 := block_start I3 ok hN f3
  have pg := hg t3 (upd H2 D (.lst [])) t3.heap.objs.size (cellsFrom (t3.heap.objs.size + 1) scope.names (cloFrom X.env.cells scope.names [])) fp
  have pt := ht t3 (upd H2 D (.lst [])) t3.heap.objs.size (cellsFrom (t3.heap.objs.size + 1) scope.names (cloFrom X.env.cells scope.names [])) fp
  have pe := he t3 (upd H2 D (.lst [])) t3.heap.objs.size (cellsFrom (t3.heap.objs.size + 1) scope.names (cloFrom X.env.cells scope.names [])) fp
  show codeAny _ _ (.compStart (.ListComp elt [⟨tg, iter, ifs, 0⟩] scope pos) 0 (.ref it) (.ref D) (compEnvC scope (cellsFrom (t3.heap.objs.size + 1) scope.names (cloFrom X.env.cells scope.names [])) t3.heap.objs.size X.env)) (PostX (model X.prog X.w) X.A X.xe X.env (EP X pins σ Q) (.ref D) t3.heap.objs.size) { t3 with heap := pushCells (t3.heap.push { cls := .type "dict", data := .dict #[] }) scope.names }
  have nfp : ∀ b ∈ fp, (upd H2 D (.lst [])) b = none := fun b hb => (f3 b hb).1.1
  generalize ece : compEnvC scope (cellsFrom (t3.heap.objs.size + 1) scope.names (cloFrom X.env.cells scope.names [])) t3.heap.objs.size X.env = ce at I4 pg pt pe ⊢
  have cL : ce.locals = t3.heap.objs.size := by subst ece; rfl
  have cf : ce.frame = X.env.frame := by subst ece; rfl
  generalize eH3 : upd H2 D (.lst []) = H3 at I3 I4 pg pt pe w0 nfp f3
  generalize e4 : ({ t3 with heap := pushCells (t3.heap.push { cls := .type "dict", data := .dict #[] }) scope.names } : Shared) = t4 at I4 ⊢
  have st4 : tn 0 t4.heap := T.keep _ _ _ st3 fun b _ o g => by rw [← e4]; exact pushCells_keeps _ _ _ _ (Heap.get?_push_of_some _ g)
  let R := PostX (model X.prog X.w) X.A X.xe X.env (EP X pins σ Q) (.ref D) t3.heap.objs.size
  let xe := notedBy (model X.prog X.w) X.A ce fun e t' => R (.error e) t'
  have tkb : Takes (blkX X t3 H3 scope ce fp xe) (fun c d _ H => Eo c d H) := fun u t x => blk_err (pins0 := pins) (xe := xe) es ef I3 (fun b hb => (f3 b hb).1) cL cf tk x
  have pg := pg xe
  have pt := pt xe
  have pe := pe xe Eo tkb
  have I4 : Inv (blkX X t3 H3 scope ce fp xe) [] (wipe σ (own.map (·.2))) H3 t4 := blkX_inv I4
  have stat : ∀ {σ' : L2.St} {H' : Hp} {t' : Shared}, Inv (blkX X t3 H3 scope ce fp xe) [] σ' H' t' → (∀ b ∈ fp, H' b = none) → ∀ b ∈ fp, FpOk (blkX X t3 H3 scope ce fp xe) [] H' b := fun {σ' H' t'} I' hn b hb =>
    ⟨hn b hb, (I'.ok.exf b hb).1, I'.ok.exfs b hb, .inl hb, fun x c e => (I'.ok.exf b hb).2 x c e, fun p hp => absurd (show p ∈ ([] : List (Addr × Obj)) ++ [] from hp) (by simp)⟩
  have loop : codeAny (model X.prog X.w) X.A (.compLoop (.ListComp elt [⟨tg, iter, ifs, 0⟩] scope pos) 0 (.ref it) (.ref D) ce) R t4 := by
    refine compLoop_any (fun n t' => ∃ i H', Inv (blkX X t3 H3 scope ce fp xe) [] (wipe σ (own.map (·.2))) H' t' ∧ tn i t'.heap ∧ (∀ b ∈ fp, H' b = none) ∧ W i n H') ?_ m0 ⟨0, H3, I4, st4, nfp, w0⟩
    rintro n t5 ⟨i, H5, I5, st5, n5, w5⟩
    rcases turn i n H5 w5 with ⟨stop, qq⟩ | ⟨go, Nx, hNx, step⟩
    · have td := T.done (blkX X t3 H3 scope ce fp xe) rfl rfl rfl hc i [] t5 _ H5 (fun _ _ => False) I5 (stat I5 n5) st5 stop
      refine thnF td fun r t6 ⟨hr, I6⟩ => ?_
      subst hr
      have I7 : Inv X pins σ H5 t6 := I3.call' (ch := fp) I6.os I6.base I6.hok I6.bare fun b hb => ⟨(f3 b hb).1.2.2.2.1, (f3 b hb).1.2.1, (f3 b hb).1.2.2.2.2.1, (f3 b hb).1.2.2.2.2.2⟩
      have nC : H5 t3.heap.objs.size = none := cL ▸ (show H5 ce.locals = none from I6.free)
      obtain ⟨m, hn, -⟩ := I6.loc
      have hn : t6.heap.Ns ce.locals m := hn
      rw [cL] at hn
      obtain ⟨a0, a1, a2, a3, a4, a5⟩ := I3.fpOk (Nat.le_refl _) nC
      exact ⟨m, hn, fun h' sb => ⟨.ref D, H5, I7.turned (t' := t6.toks) (fun b o n g => (sb.2 b n).trans g) a0 a1 a3 a4 a5, rfl, qq⟩⟩
    · have ti := T.item (blkX X t3 H3 scope ce fp xe) rfl rfl rfl hc i [] t5 _ H5 (fun _ _ => False) I5 (stat I5 n5) st5 go
      refine thnF ti fun r t6 ⟨u, hr, h6⟩ => ?_
      subst hr
      refine thnF h6 fun _ t7 ⟨x, H7, I7, r7, y7, st7, n7⟩ => ?_
      refine thn (pg.run _ t7 _ H7 x u _ (I7.pinned (stat I7 n7) (T.obj _ _ st7)) r7 (step x H7 y7)) fun _ t8 ⟨σ8, H8, I8, hw8, q8⟩ => ?_
      refine thn (pt.run _ t8 σ8 H8 _ I8 q8) fun b t9 ⟨H9, I9, q9⟩ => ?_
      have fin : ∀ {t' : Shared} {H' : Hp}, Inv (blkX X t3 H3 scope ce fp xe) ([] ++ pinsAt fp t7.heap) σ8 H' t' → Nx H' → ∃ m, m < n ∧ ∃ i H', Inv (blkX X t3 H3 scope ce fp xe) [] (wipe σ (own.map (·.2))) H' t' ∧ tn i t'.heap ∧ (∀ b ∈ fp, H' b = none) ∧ W i m H' := fun {t' H'} I' nx => by
        obtain ⟨m', hm, w'⟩ := hNx H' nx
        have pn : ∀ b ∈ fp, ∀ o, t7.heap.get? b = some o → t'.heap.get? b = some o ∧ H' b = none := fun b hb o g =>
          let z := I'.pin (b, o) (List.mem_append_right _ (List.mem_append_right _ (mem_pinsAt hb g))); ⟨z.1, z.2.1⟩
        have el : (wipe σ (own.map (·.2))).length = σ8.length := by rw [← hw8, wipe_length]
        refine ⟨m', hm, i + 1, H', (I'.unpinned (pins := [])).weak el (fun j v g => ?_), T.keep _ _ _ st7 fun b hb o g => (pn b hb o g).1, fun b hb => ?_, w'⟩
        · rw [← hw8] at g
          exact (wipe_some g).1
        · obtain ⟨o, g, _⟩ := T.obj _ _ st7 b hb
          exact (pn b hb o g).2
      cases b with
      | false =>
        simp only [Bool.false_eq_true, if_false] at q9 ⊢
        exact fin I9 q9
      | true =>
        simp only [if_true] at q9 ⊢
        refine thn (pe.run _ t9 σ8 H9 _ I9 q9) fun z t10 ⟨yv, H10, I10, r10, acc, hD10, hz10, nx⟩ => ?_
        exact app_ok (X := blkX X t3 H3 scope ce fp xe) I10 hD10 hz10 r10 fun t11 I11 => fin I11 nx
  exact codeAny_compStart_list loop (T.self X.A 0 _ _ _ st4 loop)
end G
namespace G
open PySem PySem.Spec PySem.Calls PyProof.Rows L2 He
/-! ### texts -/
/-- a text by its signs -/
abbrev Sg (l : List Nat) : Str := ⟨l.toArray⟩
theorem Sg_tl (l : List Nat) : TL.tl (Sg l) = l := rfl
theorem Sg_of (z : Str) : z = Sg (TL.tl z) := (TL.mk_tl z).symm
theorem Sg_inj {a b : List Nat} : Sg a = Sg b ↔ a = b := ⟨fun h => by have := congrArg TL.tl h; exact this, fun h => by rw [h]⟩
theorem Sg_add (a b : List Nat) : Sg a ++ Sg b = Sg (a ++ b) := TL.ext_tl (by rw [TL.tl_append])
theorem Sg_len (a : List Nat) : (Sg a).length = a.length := by rw [TL.len_tl]
theorem Sg_eq {a b : List Nat} : decide (Sg a = Sg b) = decide (a = b) := by
  by_cases h : a = b
  · rw [decide_eq_true h, decide_eq_true (Sg_inj.mpr h)]
  · rw [decide_eq_false h, decide_eq_false fun z => h (Sg_inj.mp z)]
def cutL (l : List Nat) (lo hi : Option Int) : List Nat := (l.drop (HT.sIx l.length 0 lo)).take (HT.sIx l.length l.length hi - HT.sIx l.length 0 lo)
theorem cutS_S {l : List Nat} {lo hi : Option Int} : cutS (Sg l) lo hi = Sg (cutL l lo hi) := by
  unfold cutS cutL
  rw [show (Sg l).length = l.length from Sg_len l]
theorem cutL_to {l : List Nat} {k : Nat} : cutL l none (some (k : Int)) = l.take k := by
  unfold cutL
  rw [HT.sIx_none, HT.sIx_nat, List.drop_zero, Nat.sub_zero]
  by_cases h : k ≤ l.length
  · rw [Nat.min_eq_left h]
  · rw [Nat.min_eq_right (by omega), List.take_length, List.take_of_length_le (by omega)]
theorem cutL_from {l : List Nat} {k : Nat} : cutL l (some (k : Int)) none = l.drop k := by
  unfold cutL
  rw [HT.sIx_none, HT.sIx_nat]
  by_cases h : k ≤ l.length
  · rw [Nat.min_eq_left h, List.take_of_length_le (by rw [List.length_drop]; omega)]
  · rw [Nat.min_eq_right (by omega), Nat.sub_self, List.take_zero, List.drop_eq_nil_of_le (by omega)]
theorem cutL_to1 {l : List Nat} : cutL l none (some 1) = l.take 1 := cutL_to (k := 1)
theorem cutL_from1 {l : List Nat} : cutL l (some 1) none = l.drop 1 := cutL_from (k := 1)
section
variable {X : Cx} {K : PySem.W.Frag} {σ : L2.St} {H : Hp} {Q : VK} {D : Ends} {g : TG} {tb : TS}
/-- a text so many times -/
def repL (l : List Nat) : Nat → List Nat
  | 0 => []
  | n + 1 => l ++ repL l n
theorem repL_len {l : List Nat} : ∀ {n : Nat}, (repL l n).length = n * l.length
  | 0 => by rw [Nat.zero_mul]; rfl
  | n + 1 => by
    show (l ++ repL l n).length = _
    rw [List.length_append, repL_len, Nat.succ_mul, Nat.add_comm]
theorem rep_fold : ∀ {n : Nat} {a : Array Nat} {l : List Nat}, ((List.replicate n l.toArray).foldl (· ++ ·) a).toList = a.toList ++ repL l n
  | 0, a, l => by
    rw [show repL l 0 = [] from rfl, List.append_nil]
    rfl
  | n + 1, a, l => by
    show ((List.replicate n l.toArray).foldl (· ++ ·) (a ++ l.toArray)).toList = _
    rw [rep_fold, Array.toList_append, List.append_assoc]
    rfl
def gRepS : R2
  | .str z, .int n, H, Q => 0 ≤ n ∧ n ≤ 1000 ∧ z.length ≤ 1000 ∧ Q (.str (Sg (repL (TL.tl z) n.toNat))) H
  | _, _, _, _ => False
theorem op_gRepS : OpR X (binaryOp .Mult) gRepS := by
  intro pins s σ H x y v u Q I rx ry h
  unfold gRepS at h
  split at h
  · rename_i z n
    obtain ⟨h0, h1, h2, q⟩ := h
    obtain ⟨t, rfl⟩ := rx
    obtain ⟨t', rfl⟩ := ry
    rcases Int.lt_or_le n 1 with c | c
    · obtain rfl : n = 0 := by omega
      exact PySem.P.mul_str_none (by decide) (by decide) ⟨.str Str.empty, _, I.tok _, ⟨_, rfl⟩, q⟩
    · obtain ⟨m, rfl⟩ := Int.eq_ofNat_of_zero_le h0
      refine PySem.P.mul_str (by rw [Bool.or_eq_false_iff]; exact ⟨decide_eq_false (by omega), decide_eq_false (by omega)⟩) (fun _ _ => ?_) (fun _ _ => ?_) ?_
      · have : (1000 : Int) ≤ (2 ^ 63 - 1) / (m : Int) := (Int.le_ediv_iff_mul_le (by omega)).mpr (by omega)
        omega
      · rw [Int.toNat_natCast]
        have : z.length * m ≤ 1000 * 1000 := Nat.mul_le_mul h2 (by omega)
        have sz : sizeLine = 16777216 := sizeLine_eq
        exact decide_eq_false (by omega)
      · rw [if_neg (by omega)]
        have e1 : (⟨(List.replicate m z.cps).foldl (· ++ ·) #[]⟩ : Str) = Sg (repL (TL.tl z) m) := TL.ext_tl (by
          have := rep_fold (n := m) (a := #[]) (l := z.cps.toList)
          rw [Array.toArray_toList] at this
          exact this)
        rw [Int.toNat_natCast] at q ⊢
        split
        · rename_i c2
          have e2 : z = Sg (repL (TL.tl z) m) := by
            rw [Bool.or_eq_true] at c2
            rcases c2 with c2 | c2
            · obtain rfl : m = 1 := by
                have := of_decide_eq_true c2
                omega
              exact TL.ext_tl (by show TL.tl z = TL.tl z ++ []; rw [List.append_nil])
            · have c2 : z.length = 0 := by simpa using c2
              rw [TL.len_tl] at c2
              refine TL.ext_tl ?_
              have e : (repL (TL.tl z) m).length = 0 := by rw [repL_len, c2, Nat.mul_zero]
              rw [List.eq_nil_of_length_eq_zero c2]
              rw [List.eq_nil_of_length_eq_zero c2] at e
              exact (List.eq_nil_of_length_eq_zero e).symm
          rw [← e2] at q
          exact ⟨.str z, _, I, ⟨_, rfl⟩, q⟩
        · rw [e1]
          refine ⟨?_, .str _, _, I.tok _, ⟨_, rfl⟩, q⟩
          have sz : sizeLine = 16777216 := sizeLine_eq
          have : m * (TL.tl z).length ≤ 1000 * 1000 := Nat.mul_le_mul (by omega) (by rw [← TL.len_tl]; exact h2)
          rw [Sg_len, repL_len]
          omega
  · exact h.elim
theorem r_repS {l : List Nat} {n : Int} : gRepS (.str (Sg l)) (.int n) H Q = (0 ≤ n ∧ n ≤ 1000 ∧ (Sg l).length ≤ 1000 ∧ Q (.str (Sg (repL l n.toNat))) H) := rfl
/-- a sign in a text -/
def gInS : R2 := fun x y H Q => ∃ (c : Nat) (z : Str), x = .str ⟨#[c]⟩ ∧ y = .str z ∧ Q (.bl (decide (c ∈ z.cps.toList))) H
def gNinS : R2 := fun x y H Q => ∃ (c : Nat) (z : Str), x = .str ⟨#[c]⟩ ∧ y = .str z ∧ Q (.bl (!decide (c ∈ z.cps.toList))) H
theorem op_gInS : OpR X (compareOp .In) gInS := op_in_sign
theorem op_gNinS : OpR X (compareOp .NotIn) gNinS := op_notIn_sign
theorem r_inS {c : Nat} {z : Str} : gInS (.str ⟨#[c]⟩) (.str z) H Q = Q (.bl (decide (c ∈ TL.tl z))) H := propext ⟨fun ⟨_, _, e, e', q⟩ => by cases e; cases e'; exact q, fun q => ⟨c, z, rfl, rfl, q⟩⟩
theorem r_ninS {c : Nat} {z : Str} : gNinS (.str ⟨#[c]⟩) (.str z) H Q = Q (.bl (!decide (c ∈ TL.tl z))) H := propext ⟨fun ⟨_, _, e, e', q⟩ => by cases e; cases e'; exact q, fun q => ⟨c, z, rfl, rfl, q⟩⟩
/-- x in a written tuple of flat things -/
theorem r_inT {a : Addr} {xs : List V} {x : V} (h : H a = some (.tup xs)) (fx : flatV x = true) (fs : xs.all flatV = true) (q : Q (.bl (inV x xs)) H) : rInG K false x (.ref a) H Q := .inl ⟨a, xs, rfl, .inr (.inl (.inl h)), fx, fs, by rw [if_neg Bool.false_ne_true]; exact q⟩
theorem r_ninT {a : Addr} {xs : List V} {x : V} (h : H a = some (.tup xs)) (fx : flatV x = true) (fs : xs.all flatV = true) (q : Q (.bl (!inV x xs)) H) : rInG K true x (.ref a) H Q := .inl ⟨a, xs, rfl, .inr (.inl (.inl h)), fx, fs, by rw [if_pos (rfl : true = true)]; exact q⟩
theorem r_inL {a : Addr} {xs : List V} {x : V} (h : SqL K H a xs) (fx : flatV x = true) (fs : xs.all flatV = true) (q : Q (.bl (inV x xs)) H) : rIn K false x (.ref a) H Q := ⟨a, xs, rfl, .inl h, fx, fs, by rw [if_neg Bool.false_ne_true]; exact q⟩
theorem r_ninL {a : Addr} {xs : List V} {x : V} (h : SqL K H a xs) (fx : flatV x = true) (fs : xs.all flatV = true) (q : Q (.bl (!inV x xs)) H) : rIn K true x (.ref a) H Q := ⟨a, xs, rfl, .inl h, fx, fs, by rw [if_pos (rfl : true = true)]; exact q⟩
/-- for c in a text -/
theorem x_str {te : TE} {R : It → Hp → Prop} : iStr te σ H R = te σ H fun v H1 => ∃ x, v = .str x ∧ R (Its x) H1 := rfl
theorem x_strE {z : Str} {P : Str → Prop} : (∃ x, V.str z = V.str x ∧ P x) = P z := propext ⟨fun ⟨_, e, q⟩ => by cases e; exact q, fun q => ⟨z, rfl, q⟩⟩
theorem forW_str {l : List Nat} (Pv : Nat → L2.St → Hp → Prop) (h0 : Pv 0 σ H) (hs : ∀ (i c : Nat) σ H, l[i]? = some c → Pv i σ H → g (.str (Sg [c])) σ H fun σ2 H2 => tb { D with nx := Pv (i + 1), ct := Pv (i + 1), bk := D.nx } σ2 H2)
    (hd : ∀ σ H, Pv l.length σ H → D.nx σ H) : ForW (Its (Sg l)) g tb D σ H :=
  for_it (walk_str (z := Sg l)) Pv h0 (fun _ _ _ _ _ => trivial) (fun i x σ H H' hi p y => by
    obtain ⟨rfl, c, e, rfl⟩ := y
    exact hs i c σ _ (by simpa using e) p) (by simpa using hd)
/-! ### calls -/
def gIntS : List V → Hp → VK → Prop := fun xs H Q => ∃ a n, xs = [.str a] ∧ PySem.intText? a = some n ∧ a.length ≤ 640 ∧ Q (.int n) H
theorem call_gIntS : CallR X (.type "int") gIntS := call_int_str
def gStrI : List V → Hp → VK → Prop
  | [.int i], H, Q => i.natAbs.log2 < 1920 ∧ Q (.str (toString i)) H
  | _, _, _ => False
theorem call_gStrI : CallR X (.type "str") gStrI := by
  intro pins s σ H xs us Q I r h
  unfold gStrI at h
  split at h
  · exact call_str_int pins s σ _ _ us Q I r ⟨_, rfl, h.1, h.2⟩
  · exact h.elim
theorem r_strI {i : Int} (h : i.natAbs.log2 < 1920) (q : Q (.str (Str.ofString (toString i))) H) : gStrI [.int i] H Q := ⟨h, q⟩
def rTupG (K : PySem.W.Frag) : List V → Hp → VK → Prop := fun xs H Q => ∃ p ys, xs = [.ref p] ∧ ((SqL K H p ys ∧ ∀ l, H l = none → Q (.ref l) (upd H l (.tup ys))) ∨ (SqT K H p ys ∧ Q (.ref p) H))
theorem call_tupK (hK : X.K = K) : CallR X (.type "tuple") (rTupG K) := hK ▸ call_tuple_of
def rJoin (K : PySem.W.Frag) : V → List V → Hp → VK → Prop := fun x xs H Q => ∃ a p, ∃ ys : List Str, x = .str a ∧ xs = [.ref p] ∧ (SqL K H p (ys.map V.str) ∨ SqT K H p (ys.map V.str)) ∧ (ys.map (·.length)).sum + ys.length * a.length ≤ 16777216 ∧ Q (.str (Txt.join a ys)) H
theorem mt_joinK (hK : X.K = K) : MtR X "str.join" (rJoin K) := hK ▸ mt_join
def rSplit : V → List V → Hp → VK → Prop := fun x xs H Q => ∃ a b, x = .str a ∧ xs = [.str b] ∧ (b.length == 0) = false ∧ a.length + 2 ≤ sizeLine ∧ rNewStrs (Txt.split a b) H Q
theorem mt_splitG : MtR X "str.split" rSplit := mt_split
def rFindS : V → List V → Hp → VK → Prop := fun x xs H Q => ∃ a b, x = .str a ∧ xs = [.str b] ∧ Q (.int (Txt.find a b)) H
theorem mt_findG : MtR X "str.find" rFindS := mt_find
theorem mt_indexK (hK : X.K = K) : MtR X "list.index" (rIndex K) := hK ▸ mt_index
/-- texts by their signs -/
def SgL (ps : List (List Nat)) : List V := ps.map fun p => V.str (Sg p)
theorem r_split {l : List Nat} {c : Nat} (hc : c < 256) (hz : l.length + 2 ≤ sizeLine) (q : ∀ p, H p = none → Q (.ref p) (upd H p (.lst (SgL (TL.spl [c] 0 [] l))))) : rSplit (.str (Sg l)) [.str (Sg [c])] H Q := by
  refine ⟨_, _, rfl, rfl, rfl, by rw [Sg_len]; exact hz, fun p hp => ?_⟩
  have e := TL.split_spl (Sg l) (Sg [c]) (by simp) (TL.kind_ok (by simp [hc]))
  have e2 : (Txt.split (Sg l) (Sg [c])).map V.str = SgL (TL.spl [c] 0 [] l) := by
    have e : (Txt.split (Sg l) (Sg [c])).map TL.tl = TL.spl [c] 0 [] l := e
    rw [← e]
    unfold SgL
    rw [List.map_map]
    refine List.map_congr_left fun z _ => ?_
    show V.str z = V.str (Sg (TL.tl z))
    rw [← Sg_of]
  rw [e2]
  exact q p hp
theorem r_join {sep : List Nat} {ps : List (List Nat)} {p : Addr} (h : SqL K H p (SgL ps)) (hz : (ps.map List.length).sum + ps.length * sep.length ≤ 16777216) (q : Q (.str (Sg (TL.joinL sep ps))) H) : rJoin K (.str (Sg sep)) [.ref p] H Q := by
  refine ⟨_, p, ps.map Sg, rfl, rfl, .inl (by rw [List.map_map]; exact h), ?_, ?_⟩
  · rw [List.map_map, List.length_map, Sg_len, show ((·.length) ∘ Sg : List Nat → Nat) = List.length from funext fun l => Sg_len l]
    exact hz
  · have e : Txt.join (Sg sep) (ps.map Sg) = Sg (TL.joinL sep ps) := TL.ext_tl (by
      rw [TL.join_eq, TL.tl_join, List.map_map, show (TL.tl ∘ Sg) = (id : List Nat → List Nat) from rfl, List.map_id])
    rw [e]
    exact q
theorem r_ixStr {l : List Nat} {i c : Nat} (hz : l.length ≤ sizeLine) (e : l[i]? = some c) (q : Q (.str (Sg [c])) H) : rIx K (.str (Sg l)) (.int (i : Int)) H Q :=
  .inr (.inr ⟨_, _, c, rfl, rfl, by rw [Sg_len]; exact hz, atI_nat e, q⟩)
theorem r_lenStr {l : List Nat} : (q : l.length ≤ sizeLine ∧ Q (.int (l.length : Int)) H) → L2.rLen K [.str (Sg l)] H Q := fun q => ⟨_, _, rfl, by show (Sg l).length ≤ sizeLine ∧ _ = (Sg l).length; rw [Sg_len]; exact ⟨q.1, rfl⟩, q.2⟩
theorem r_slStr {l : List Nat} {lo hi : Option Int} (hz : l.length ≤ sizeLine) (q : Q (.str (Sg (cutL l lo hi))) H) : rSlS (.str (Sg l)) lo hi H Q := ⟨_, rfl, by rw [Sg_len]; exact hz, by rw [cutS_S]; exact q⟩
theorem r_tupL {a : Addr} {xs : List V} (h : SqL K H a xs) (q : ∀ l, H l = none → Q (.ref l) (upd H l (.tup xs))) : rTupG K [.ref a] H Q := ⟨a, xs, rfl, .inl ⟨h, q⟩⟩
end
end G
namespace G
open PySem PySem.Spec PySem.Calls PyProof.Rows L2 He
/-! ### suites of some statements -/
section
variable {X : Addr → List (Addr × Obj) → Cx} {st : Stmt} {rest a b : List Stmt} {t u : TS} {tc : TT} {c : Expr} {pos : Pos}
theorem su_nil : ∀ x y, PSs (X x y) [] tNext := fun _ _ => pss_nil
theorem su_one (h : ∀ x y, PS (X x y) st t) : ∀ x y, PSs (X x y) [st] t := fun x y => pss_one (h x y)
theorem su_cons (h1 : ∀ x y, PS (X x y) st t) (h2 : ∀ x y, PSs (X x y) rest u) : ∀ x y, PSs (X x y) (st :: rest) (tSeq t u) := fun x y => pss_cons (h1 x y) (h2 x y)
theorem su_if (h : ∀ x y, PT (X x y) c tc) (h1 : ∀ x y, PSs (X x y) a t) (h2 : ∀ x y, PSs (X x y) b u) : ∀ x y, PS (X x y) (.If c a b pos) (tIfS tc t u) := fun x y => ps_if (h x y) (h1 x y) (h2 x y)
end
theorem pe_isTK {X : Cx} {K : PySem.W.Frag} {a : Expr} {es : List Expr} {x1} {ta : TE} {tc : TA} {p tp pos : Pos} (hK : X.K = K) (hg : Gl X "isinstance") (hm : X.mg "isinstance" = none) (ha : PE X a ta) (hc : PA X es tc)
    (he : starEach [a, .Tuple es x1 tp] X.env = [(false, eval a X.env), (false, eval (.Tuple es x1 tp) X.env)] := by rfl) : PE X (.Call (.Name "isinstance" p) [a, .Tuple es x1 tp] [] pos) (tIsT K ta tc) := by
  subst hK
  exact pe_isT hg hm ha hc he
end G
namespace G
open PySem PySem.Spec PySem.Calls PyProof.Rows L2 He
/-! ### a written dict -/
section
variable {σ : L2.St} {H : Hp} {Q : VK} {K : PySem.W.Frag}
theorem x_disp {trs : List (TE × TE)} : tDisp trs σ H Q = ∀ p, H p = none → tPairs trs σ (upd H p (.dK [])) fun ps H2 => H2 p = some (.dK []) ∧ ∃ kvs : List (Key × V), ps = kvs.map (fun kv => (kV kv.1, kv.2)) ∧ kvs.length ≤ 15 ∧ Q (.ref p) (upd H2 p (.dK (mergeK [] kvs))) := rfl
theorem x_pnil {R : List (V × V) → Hp → Prop} : tPairs [] σ H R = R [] H := rfl
theorem x_pcons {tk tv : TE} {r : List (TE × TE)} {R : List (V × V) → Hp → Prop} : tPairs ((tk, tv) :: r) σ H R = tk σ H fun x H1 => tv σ H1 fun y H2 => tPairs r σ H2 fun ps H3 => R ((x, y) :: ps) H3 := rfl
theorem r_lenT {a : Addr} {xs : List V} (h : H a = some (.tup xs)) (q : Q (.int (xs.length : Int)) H) : L2.rLen K [.ref a] H Q := ⟨_, _, rfl, .inr ⟨_, .inl (.inl h), rfl⟩, q⟩
end
end G
namespace Pr
open PySem PySem.Spec PyProof.Rows L2 G
local macro_rules | `(tactic| walk_at "x") => `(tactic| try simp only [↓x_var0, ↓x_varS, ↓x_c, ↓x_op, ↓x_un, ↓x_cb, ↓x_nil, ↓x_cons, ↓x_test, ↓x_b, ↓x_ex, ↓x_and, ↓x_or, ↓x_not, ↓x_andV, ↓x_orV, ↓x_notV, ↓x_tif, ↓x_chain, ↓x_menu, ↓x_menuI, ↓x_lst, ↓x_tup, ↓x_dnew, ↓x_callW, ↓x_callN, ↓x_seq, ↓x_next, ↓x_ret, ↓x_retN, ↓x_drop, ↓x_ifS, ↓x_asg, ↓x_name, ↓x_raise, ↓x_fld, ↓x_setF, ↓x_meth, ↓x_make, ↓x_sub, ↓r_min, ↓r_max, ↓x_yes, ↓x_for, ↓x_lock, ↓x_keys, ↓x_cut, ↓x_lc, ↓x_rng1, ↓x_rng2, ↓x_lst1, ↓x_itup, ↓x_rng3, ↓x_three, ↓x_lstg, ↓x_tupg, ↓x_adrS, ↓x_one, ↓x_two, ↓x_adr, ↓x_sl, ↓x_np, ↓x_pt, ↓x_int, ↓x_bm, ↓x_bm0, ↓x_consg, ↓x_nilg, ↓x_dget2, ↓x_dget1, ↓x_dget, ↓x_din, ↓x_dni, ↓x_dput, ↓x_dpop2, ↓r_isB, ↓r_notB, ↓x_enum, ↓x_zip, ↓x_str, ↓x_strE, ↓r_inS, ↓r_ninS, wipe, List.map_cons, List.map_nil, ↓x_isT, ↓r_isiII, ↓r_isiBB, ↓r_isiIB, ↓r_isiSS, ↓r_neNS, ↓r_neSN, ↓r_neNN, ↓r_eqNS, ↓r_eqSN, ↓r_eqNN, ↓r_eqIS, ↓r_neIS, ↓r_neSI, ↓r_neBS, ↓r_eqBB, ↓r_neBB, ↓x_start, ↓x_K, ↓x_start0, ↓r_i0, ↓r_i, ↓r_u, ↓r_addI, ↓r_addS, ↓r_mulI, ↓r_mulS, ↓r_eqI, ↓r_neI, ↓r_eqS, ↓r_neS, ↓r_absI, ↓r_intI, ↓r_intB, List.length_cons, List.length_nil, List.replicate, List.set_cons_zero, List.set_cons_succ, decide_eq_true_eq, Bool.not_eq_true', decide_eq_false_iff_not, if_true, if_false, Bool.false_eq_true, Bool.true_eq_false, ite_true, ite_false, Bool.not_true, Bool.not_false, c_div, n_ten, c_pow, not_true_eq_false, not_false_eq_true, decide_true, decide_false, true_and, and_true, and_self, true_or, or_true, Int.reduceLT, Int.reduceLE, Int.reduceMul, Int.reduceAdd, Int.reduceSub, Int.reducePow, Int.reduceNeg, Int.reduceDiv, Int.reduceMod, Nat.reducePow, Int.reduceToNat, Int.reduceEq, Int.reduceNe, Nat.reduceLT, Nat.reduceLeDiff, Nat.reduceAdd])

/-! ## the text by places -/
def top (i : Nat) : Stmt := PySem.Challenge.pw_cellkeep_k22_notes.main.body.getD i (.Pass ⟨0, 0, 0, 0⟩)
abbrev s_parts_of : Stmt := top 18
abbrev s_line_of : Stmt := top 19
abbrev s_number_of : Stmt := top 20
abbrev s_deed_of : Stmt := top 21
abbrev s__law_cell_at : Stmt := top 23
abbrev s__law_whole : Stmt := top 24
abbrev s__law_sign_by : Stmt := top 25
abbrev s__law_words : Stmt := top 26
abbrev s__law_figures : Stmt := top 27
abbrev s__law_number_by : Stmt := top 28
abbrev s__law_number : Stmt := top 29
abbrev s__law_deed : Stmt := top 30
abbrev s__law_read : Stmt := top 31
abbrev s__law_right : Stmt := top 32
abbrev s__law_changed : Stmt := top 33
abbrev s_law : Stmt := top 34
/-! ## the facts -/
def fa : List He.Fa := [.glo "KeepError", .glo "BadNumber", .glo "BadWord", .glo "BadCount", .glo "NoPlace", .glo "NoRoom", .glo "NoSlot", .glo "NoCell", .glo "NoHand", .glo "NothingHeld", .glo "NoName", .glo "NoDeed", .glo "NoImage", .glo "NoProgram", .glo "parts_of", .glo "line_of", .glo "number_of", .glo "deed_of", .glo "_law_cell_at", .glo "_law_whole", .glo "_law_sign_by", .glo "_law_words", .glo "_law_figures", .glo "_law_number_by", .glo "_law_number", .glo "_law_deed", .glo "_law_read", .glo "_law_right", .glo "_law_changed", .glo "law", .str "FIGURES" "0123456789", .int "MOST_FIGURES" (60), .free "isinstance", .free "len", .free "abs", .free "range", .free "all", .free "int", .free "bool", .free "str", .free "tuple", .free "ValueError", .exc "KeepError", .exc "BadNumber", .exc "BadWord", .exc "BadCount", .exc "NoPlace", .exc "NoRoom", .exc "NoSlot", .exc "NoCell", .exc "NoHand", .exc "NothingHeld", .exc "NoName", .exc "NoDeed", .exc "NoImage", .exc "NoProgram"]
def d_parts_of : He.DefD := ⟨("parts_of", none), "parts_of", "parts_of", defArgs s_parts_of, defBody s_parts_of, defScope s_parts_of, [], []⟩
def d_line_of : He.DefD := ⟨("line_of", none), "line_of", "line_of", defArgs s_line_of, defBody s_line_of, defScope s_line_of, [], []⟩
def d_number_of : He.DefD := ⟨("number_of", none), "number_of", "number_of", defArgs s_number_of, defBody s_number_of, defScope s_number_of, [], []⟩
def d_deed_of : He.DefD := ⟨("deed_of", none), "deed_of", "deed_of", defArgs s_deed_of, defBody s_deed_of, defScope s_deed_of, [], []⟩
def d__law_cell_at : He.DefD := ⟨("_law_cell_at", none), "_law_cell_at", "_law_cell_at", defArgs s__law_cell_at, defBody s__law_cell_at, defScope s__law_cell_at, [], []⟩
def d__law_whole : He.DefD := ⟨("_law_whole", none), "_law_whole", "_law_whole", defArgs s__law_whole, defBody s__law_whole, defScope s__law_whole, [], []⟩
def d__law_sign_by : He.DefD := ⟨("_law_sign_by", none), "_law_sign_by", "_law_sign_by", defArgs s__law_sign_by, defBody s__law_sign_by, defScope s__law_sign_by, [], []⟩
def d__law_words : He.DefD := ⟨("_law_words", none), "_law_words", "_law_words", defArgs s__law_words, defBody s__law_words, defScope s__law_words, [], []⟩
def d__law_figures : He.DefD := ⟨("_law_figures", none), "_law_figures", "_law_figures", defArgs s__law_figures, defBody s__law_figures, defScope s__law_figures, [], []⟩
def d__law_number_by : He.DefD := ⟨("_law_number_by", none), "_law_number_by", "_law_number_by", defArgs s__law_number_by, defBody s__law_number_by, defScope s__law_number_by, [], []⟩
def d__law_number : He.DefD := ⟨("_law_number", none), "_law_number", "_law_number", defArgs s__law_number, defBody s__law_number, defScope s__law_number, [], []⟩
def d__law_deed : He.DefD := ⟨("_law_deed", none), "_law_deed", "_law_deed", defArgs s__law_deed, defBody s__law_deed, defScope s__law_deed, [], []⟩
def d__law_read : He.DefD := ⟨("_law_read", none), "_law_read", "_law_read", defArgs s__law_read, defBody s__law_read, defScope s__law_read, [], []⟩
def d__law_right : He.DefD := ⟨("_law_right", none), "_law_right", "_law_right", defArgs s__law_right, defBody s__law_right, defScope s__law_right, [], []⟩
def d__law_changed : He.DefD := ⟨("_law_changed", none), "_law_changed", "_law_changed", defArgs s__law_changed, defBody s__law_changed, defScope s__law_changed, [], []⟩
def d_law : He.DefD := ⟨("law", none), "law", "law", defArgs s_law, defBody s_law, defScope s_law, [], []⟩
def fn : List He.DefD := [d_parts_of, d_line_of, d_number_of, d_deed_of, d__law_cell_at, d__law_whole, d__law_sign_by, d__law_words, d__law_figures, d__law_number_by, d__law_number, d__law_deed, d__law_read, d__law_right, d__law_changed, d_law]
def exL : XL := ⟨["KeepError", "BadNumber", "BadWord", "BadCount", "NoPlace", "NoRoom", "NoSlot", "NoCell", "NoHand", "NothingHeld", "NoName", "NoDeed", "NoImage", "NoProgram"], []⟩
abbrev Tx (K : PySem.W.Frag) (mg : Str → Option Value) : Prop := Told fa fn exL K mg
theorem sc_parts_of : FnScope ["word"] ["word"] (defScope s_parts_of) := ⟨rfl, rfl, rfl, by decide +kernel, rfl, by decide +kernel, by decide +kernel⟩
theorem sc_line_of : FnScope ["deed", "number"] ["deed"] (defScope s_line_of) := ⟨rfl, rfl, rfl, by decide +kernel, rfl, by decide +kernel, by decide +kernel⟩
theorem sc_number_of : FnScope ["part", "figures", "sign"] ["part"] (defScope s_number_of) := ⟨rfl, rfl, rfl, by decide +kernel, rfl, by decide +kernel, by decide +kernel⟩
theorem sc_deed_of : FnScope ["line", "parts", "part"] ["line"] (defScope s_deed_of) := ⟨rfl, rfl, rfl, by decide +kernel, rfl, by decide +kernel, by decide +kernel⟩
theorem sc__law_cell_at : FnScope ["_law_script", "_law_k"] ["_law_script", "_law_k"] (defScope s__law_cell_at) := ⟨rfl, rfl, rfl, by decide +kernel, rfl, by decide +kernel, by decide +kernel⟩
theorem sc__law_whole : FnScope ["_law_found"] ["_law_found"] (defScope s__law_whole) := ⟨rfl, rfl, rfl, by decide +kernel, rfl, by decide +kernel, by decide +kernel⟩
theorem sc__law_sign_by : FnScope ["_law_cell", "_law_some"] ["_law_cell"] (defScope s__law_sign_by) := ⟨rfl, rfl, rfl, by decide +kernel, rfl, by decide +kernel, by decide +kernel⟩
theorem sc__law_words : FnScope ["_law_first"] [] (defScope s__law_words) := ⟨rfl, rfl, rfl, by decide +kernel, rfl, by decide +kernel, by decide +kernel⟩
theorem sc__law_figures : FnScope ["_law_number_here", "_law_found", "_law_left"] ["_law_number_here"] (defScope s__law_figures) := ⟨rfl, rfl, rfl, by decide +kernel, rfl, by decide +kernel, by decide +kernel⟩
theorem sc__law_number_by : FnScope ["_law_cell"] ["_law_cell"] (defScope s__law_number_by) := ⟨rfl, rfl, rfl, by decide +kernel, rfl, by decide +kernel, by decide +kernel⟩
theorem sc__law_number : FnScope ["_law_part", "_law_figures_here", "_law_number_here", "_law_sign", "_law_at"] ["_law_part"] (defScope s__law_number) := ⟨rfl, rfl, rfl, by decide +kernel, rfl, by decide +kernel, by decide +kernel⟩
theorem sc__law_deed : FnScope ["_law_line", "_law_parts", "_law_sign", "_law_words_here", "_law_counts", "_law_numbers", "_law_part"] ["_law_line"] (defScope s__law_deed) := ⟨rfl, rfl, rfl, by decide +kernel, rfl, by decide +kernel, by decide +kernel⟩
theorem sc__law_read : FnScope ["_law_line", "e"] ["_law_line"] (defScope s__law_read) := ⟨rfl, rfl, rfl, by decide +kernel, rfl, by decide +kernel, by decide +kernel⟩
theorem sc__law_right : FnScope ["_law_line", "_law_due", "_law_found", "_law_number_here"] ["_law_line", "_law_due"] (defScope s__law_right) := ⟨rfl, rfl, rfl, by decide +kernel, rfl, by decide +kernel, by decide +kernel⟩
theorem sc__law_changed : FnScope ["_law_line", "_law_cell", "_law_more", "_law_at", "_law_sign"] ["_law_line", "_law_cell", "_law_more"] (defScope s__law_changed) := ⟨rfl, rfl, rfl, by decide +kernel, rfl, by decide +kernel, by decide +kernel⟩
theorem sc_law : FnScope ["_law_script", "_law_words_here", "_law_counts", "_law_which", "_law_numbers", "_law_k", "_law_deed_here", "_law_line", "_law_number_here", "_law_found", "_law_odd", "_law_changed_here"] ["_law_script"] (defScope s_law) := ⟨rfl, rfl, rfl, by decide +kernel, rfl, by decide +kernel, by decide +kernel⟩

/-! ## the head and the end -/
abbrev RR : PySem.W.OpenRow := PySem.W.OpenLaw.row PySem.Challenge.rw_cellkeep_k22_notes
abbrev hk : PySem.W.Hook := hookG 6 fa fn exL
def ob (s : PySem.W.SharedT) : He.AlD × Bool := lookG 6 fa fn exL (HandSHeadRun.getT s)
theorem ob_eq (s : PySem.W.SharedT) : ob s = hk.obs s.abs := lookG_eq (HandSHeadRun.getT_eq s)
def loose : List Str := (["KeepError", "BadNumber", "BadWord", "BadCount", "NoPlace", "NoRoom", "NoSlot", "NoCell", "NoHand", "NothingHeld", "NoName", "NoDeed", "NoImage", "NoProgram", "FIGURES", "MOST_FIGURES", "parts_of", "line_of", "number_of", "deed_of", "_law_cell_at", "_law_whole", "_law_sign_by", "_law_words", "_law_figures", "_law_number_by", "_law_number", "_law_deed", "_law_read", "_law_right"] : List Str) ++ (["_law_changed"] : List Str)
theorem run (w : World) : HandSHeadRun.RunEq RR (PySem.W.view RR.prog [34]) hk ob 16000 loose w := by
  intro os
  kernel_rfl

/-! ## whole numbers, and what is none -/
/-- a plain thing that is no whole number -/
def Odd (H : Hp) (v : V) : Prop := ∃ t, tyOf v H = some t ∧ t ≠ "int"
theorem odd_not {H : Hp} {n : Int} : ¬ Odd H (.int n) := fun ⟨t, e, h⟩ => h (Option.some.inj e).symm
theorem odd_bl {H : Hp} {b : Bool} : Odd H (.bl b) := ⟨"bool", rfl, by decide⟩
theorem odd_non {H : Hp} : Odd H .non := ⟨"NoneType", rfl, by decide⟩
theorem odd_str {H : Hp} {z : Str} : Odd H (.str z) := ⟨"str", rfl, by decide⟩
theorem odd_lst {H : Hp} {a : Addr} {xs : List V} (h : H a = some (.lst xs)) : Odd H (.ref a) := ⟨"list", by show tyO (H a) = _; rw [h]; rfl, by decide⟩
theorem odd_tup {H : Hp} {a : Addr} {xs : List V} (h : H a = some (.tup xs)) : Odd H (.ref a) := ⟨"tuple", by show tyO (H a) = _; rw [h]; rfl, by decide⟩
theorem odd_dK {H : Hp} {a : Addr} {kvs : List (Key × V)} (h : H a = some (.dK kvs)) : Odd H (.ref a) := ⟨"dict", by show tyO (H a) = _; rw [h]; rfl, by decide⟩
abbrev Ex (K : PySem.W.Frag) (x : Str) : Value := .ref (He.ga K x)
def sp_is_whole : Sp
  | [.int _], H, Q, _ => Q (.bl true) H
  | [v], H, Q, _ => Odd H v ∧ Q (.bl false) H
  | _, _, _, _ => False
theorem len_is_whole {vs H Q E} (h : sp_is_whole vs H Q E) : vs.length = 1 := by unfold sp_is_whole at h; split at h <;> first | rfl | exact h.elim
theorem odd_whole {H : Hp} {v : V} {Q : VK} {E : XK} (h : Odd H v) : sp_is_whole [v] H Q E = Q (.bl false) H := by
  cases v with
  | int n => exact (odd_not h).elim
  | _ => exact propext ⟨fun z => z.2, fun z => ⟨h, z⟩⟩
theorem x_whole {H : Hp} {n : Int} {Q : VK} {E : XK} : sp_is_whole [.int n] H Q E = Q (.bl true) H := rfl
/-- the two questions of is_whole -/
theorem whole_odd {H : Hp} {v : V} {Q : VK} (h : Odd H v) (q : Q (.bl false) H) : gIsi [v, .ty "int"] H fun x H1 => ∃ c, x = .bl c ∧ if c = true then gIsi [v, .ty "bool"] H1 (fun x H2 => ∃ c, x = .bl c ∧ Q (.bl (!c)) H2) else Q (.bl false) H1 := by
  obtain ⟨t, e, ne⟩ := h
  refine ⟨by decide, t, e, _, rfl, ?_⟩
  have m := tyOf_in e
  split
  · rename_i c
    have tb : t = "bool" := by
      simp only [tys, List.mem_cons, List.not_mem_nil, or_false] at m
      rcases m with rfl | rfl | rfl | rfl | rfl | rfl | rfl
      · exact absurd c (by decide)
      · rfl
      · exact absurd rfl ne
      · exact absurd c (by decide)
      · exact absurd c (by decide)
      · exact absurd c (by decide)
      · exact absurd c (by decide)
    subst tb
    exact ⟨by decide, _, e, _, rfl, q⟩
  · exact q
theorem whole_int {H : Hp} {n : Int} {Q : VK} (q : Q (.bl true) H) : gIsi [.int n, .ty "int"] H fun x H1 => ∃ c, x = .bl c ∧ if c = true then gIsi [.int n, .ty "bool"] H1 (fun x H2 => ∃ c, x = .bl c ∧ Q (.bl (!c)) H2) else Q (.bl false) H1 :=
  ⟨by decide, _, rfl, _, rfl, by rw [if_pos (by decide)]; exact ⟨by decide, _, rfl, _, rfl, q⟩⟩
local macro_rules | `(tactic| walk_at "w") => `(tactic| try simp only [↓x_var0, ↓x_varS, ↓x_c, ↓x_op, ↓x_un, ↓x_cb, ↓x_nil, ↓x_cons, ↓x_test, ↓x_b, ↓x_ex, ↓x_and, ↓x_or, ↓x_not, ↓x_andV, ↓x_orV, ↓x_notV, ↓x_tif, ↓x_chain, ↓x_menu, ↓x_menuI, ↓x_lst, ↓x_tup, ↓x_dnew, ↓x_callW, ↓x_callN, ↓x_seq, ↓x_next, ↓x_ret, ↓x_retN, ↓x_drop, ↓x_ifS, ↓x_asg, ↓x_name, ↓x_raise, ↓x_fld, ↓x_setF, ↓x_meth, ↓x_make, ↓x_sub, ↓r_min, ↓r_max, ↓x_yes, ↓x_for, ↓x_lock, ↓x_keys, ↓x_cut, ↓x_lc, ↓x_rng1, ↓x_rng2, ↓x_lst1, ↓x_itup, ↓x_rng3, ↓x_three, ↓x_lstg, ↓x_tupg, ↓x_adrS, ↓x_one, ↓x_two, ↓x_adr, ↓x_sl, ↓x_np, ↓x_pt, ↓x_int, ↓x_bm, ↓x_bm0, ↓x_consg, ↓x_nilg, ↓x_dget2, ↓x_dget1, ↓x_dget, ↓x_din, ↓x_dni, ↓x_dput, ↓x_dpop2, ↓r_isB, ↓r_notB, ↓x_enum, ↓x_zip, ↓x_str, ↓x_strE, ↓r_inS, ↓r_ninS, wipe, List.map_cons, List.map_nil, ↓x_isT, ↓r_isiII, ↓r_isiBB, ↓r_isiIB, ↓r_isiSS, ↓r_neNS, ↓r_neSN, ↓r_neNN, ↓r_eqNS, ↓r_eqSN, ↓r_eqNN, ↓r_eqIS, ↓r_neIS, ↓r_neSI, ↓r_neBS, ↓r_eqBB, ↓r_neBB, ↓x_start, ↓x_K, ↓x_start0, ↓r_i0, ↓r_i, ↓r_u, ↓r_addI, ↓r_addS, ↓r_mulI, ↓r_mulS, ↓r_eqI, ↓r_neI, ↓r_eqS, ↓r_neS, ↓r_absI, ↓r_intI, ↓r_intB, List.length_cons, List.length_nil, List.replicate, List.set_cons_zero, List.set_cons_succ, decide_eq_true_eq, Bool.not_eq_true', decide_eq_false_iff_not, if_true, if_false, Bool.false_eq_true, Bool.true_eq_false, ite_true, ite_false, Bool.not_true, Bool.not_false, c_div, n_ten, c_pow, not_true_eq_false, not_false_eq_true, decide_true, decide_false, true_and, and_true, and_self, true_or, or_true, Int.reduceLT, Int.reduceLE, Int.reduceMul, Int.reduceAdd, Int.reduceSub, Int.reducePow, Int.reduceNeg, Int.reduceDiv, Int.reduceMod, Nat.reducePow, Int.reduceToNat, Int.reduceEq, Int.reduceNe, Nat.reduceLT, Nat.reduceLeDiff, Nat.reduceAdd, ↓x_whole])

/-! ## the script's cells, lists that are read -/
def cell (ns : List Int) (j : Int) : Int := ns.getD j.toNat 0
theorem same_new {H : Hp} {p : Addr} {o : HO} (h : H p = none) : Same H (upd H p o) := fun b u e => by
  rw [upd_ne (ne_of_none e h)]
  exact e
theorem ite_and {P Q A B : Prop} [Decidable P] [Decidable Q] (h1 : P → Q → A) (h2 : ¬ (P ∧ Q) → B) : if P then (if Q then A else B) else B := by
  split
  · split
    · exact h1 ‹_› ‹_›
    · exact h2 fun z => absurd z.2 ‹_›
  · exact h2 fun z => absurd z.1 ‹_›
theorem ite_or {P Q A B : Prop} [Decidable P] [Decidable Q] (h1 : P ∨ Q → A) (h2 : ¬ P → ¬ Q → B) : if P then A else if Q then A else B := by
  split
  · exact h1 (.inl ‹_›)
  · split
    · exact h1 (.inr ‹_›)
    · exact h2 ‹_› ‹_›
/-- a new instance; its first deed -/
theorem same_mk {H : Hp} {x dx C : Addr} (nx : H x = none) (ndx : H dx = none) (ne : dx ≠ x) : Same H (upd (upd H dx (.own x)) x (.ins C dx [])) := (same_new ndx).trans (same_new (by rw [upd_ne ne.symm]; exact nx))
theorem same_init {H H' : Hp} {x dx C : Addr} (nx : H x = none) (ndx : H dx = none) (ne : dx ≠ x) (k : ∀ c o, c ≠ x → upd (upd H dx (.own x)) x (.ins C dx []) c = some o → H' c = some o) : Same H H' := fun c o e => k c o (ne_of_none e nx) (same_mk nx ndx ne c o e)
theorem cut_ints (ns : List Int) (lo hi : Option Int) : ∃ cs : List Int, cutV (ns.map V.int) lo hi = cs.map V.int := ⟨(ns.drop (HT.sIx ns.length 0 lo)).take (HT.sIx ns.length ns.length hi - HT.sIx ns.length 0 lo), by unfold cutV; rw [List.length_map, List.map_take, List.map_drop]⟩
def placeOf (n : Nat) : V → Option Nat
  | .int i => if 0 ≤ i ∧ i < n then some i.toNat else none
  | _ => none
theorem placeOf_int {n : Nat} {i : Int} : placeOf n (.int i) = if 0 ≤ i ∧ i < n then some i.toNat else none := rfl
theorem placeOf_odd {H : Hp} {n : Nat} {v : V} (h : Odd H v) : placeOf n v = none := by
  cases v with
  | int i => exact (odd_not h).elim
  | _ => rfl
theorem placeOf_some {n : Nat} {v : V} {i : Nat} (h : placeOf n v = some i) : v = .int (i : Int) ∧ i < n := by
  cases v with
  | int j =>
    rw [placeOf_int] at h
    split at h
    · rename_i c
      have e := Option.some.inj h
      exact ⟨by rw [← e]; congr 1; omega, by omega⟩
    · cases h
  | _ => cases h
def placeW : V → Option Int
  | .int n => if 0 ≤ n ∧ n ≤ 9999 then some n else none
  | _ => none
theorem placeW_int {n : Int} : placeW (.int n) = if 0 ≤ n ∧ n ≤ 9999 then some n else none := rfl
theorem placeW_odd {H : Hp} {v : V} (h : Odd H v) : placeW v = none := by
  cases v with
  | int i => exact (odd_not h).elim
  | _ => rfl
theorem placeW_some {v : V} {n : Int} (h : placeW v = some n) : v = .int n ∧ 0 ≤ n ∧ n ≤ 9999 := by
  cases v with
  | int j =>
    rw [placeW_int] at h
    split at h
    · rename_i c
      cases h
      exact ⟨rfl, c⟩
    · cases h
  | _ => cases h
theorem all_flat {ws : List Int} : (ws.map V.int).all flatV = true := by
  rw [List.all_map]
  exact List.all_eq_true.mpr fun _ _ => rfl
theorem in_ints {n : Int} {ws : List Int} : inV (.int n) (ws.map V.int) = decide (n ∈ ws) := by
  unfold inV
  rw [List.any_map]
  by_cases c : n ∈ ws
  · rw [decide_eq_true c]
    exact List.any_eq_true.mpr ⟨n, c, beq_self_eq_true n⟩
  · rw [decide_eq_false c]
    refine List.any_eq_false.mpr fun x hx e => c ?_
    have e2 : x = n := eq_of_beq e
    exact e2 ▸ hx
theorem none_of {H H' : Hp} {a : Addr} (s : Same H H') (h : H' a = none) : H a = none := by
  cases e : H a with
  | none => rfl
  | some o =>
    rw [s a o e] at h
    cases h
/-- a list that grows -/
theorem r_app {K : PySem.W.Frag} {H : Hp} {l : Addr} {xs : List V} {y : V} {Q : VK} (h : H l = some (.lst xs)) (hn : xs.length < sizeLine) (q : Q .non (upd H l (.lst (xs ++ [y])))) : tyV K "list" (.ref l) H ∧ rAppend (.ref l) [y] H Q := ⟨.inl ⟨rfl, _, .of h⟩, l, xs, y, rfl, rfl, h, hn, q⟩
theorem ty_lst {K : PySem.W.Frag} {H : Hp} {l : Addr} {xs : List V} (h : H l = some (.lst xs)) : tyV K "list" (.ref l) H := .inl ⟨rfl, _, .of h⟩
theorem same_tyOf {H H' : Hp} {v : V} {t : String} (s : Same H H') (h : tyOf v H = some t) : tyOf v H' = some t := by
  cases v with
  | ref a =>
    have h1 : tyO (H a) = some t := h
    cases e : H a with
    | none =>
      rw [e] at h1
      cases h1
    | some o =>
      rw [e] at h1
      show tyO (H' a) = some t
      rw [s a o e]
      exact h1
  | _ => exact h
theorem odd_same {H H' : Hp} {v : V} (s : Same H H') (h : Odd H v) : Odd H' v := h.elim fun t q => ⟨t, same_tyOf s q.1, q.2⟩
def Thing (H : Hp) (v : V) : Prop := (∃ n, v = .int n) ∨ Odd H v
theorem thing_same {H H' : Hp} {v : V} (s : Same H H') (h : Thing H v) : Thing H' v := h.imp id (odd_same s)
theorem thing_upd {H : Hp} {a : Addr} {o o' : HO} {v : V} (e : H a = some o) (q : tyO (some o) = tyO (some o')) (h : Thing H v) : Thing (upd H a o') v := h.imp id fun ⟨t, g, ne⟩ => ⟨t, by
  cases v with
  | ref b =>
    have h1 : tyO (H b) = some t := g
    show tyO (upd H a o' b) = some t
    by_cases c : b = a
    · subst c
      rw [upd_same, ← q, ← e]
      exact h1
    · rw [upd_ne c]
      exact h1
  | _ => exact g, ne⟩
theorem r_lenS {K : PySem.W.Frag} {H : Hp} {a : Addr} {xs : List V} {Q : VK} (h : SqL K H a xs) (q : Q (.int (xs.length : Int)) H) : L2.rLen K [.ref a] H Q := ⟨_, _, rfl, .inl ⟨_, h, rfl⟩, q⟩
theorem r_ixS {K : PySem.W.Frag} {H : Hp} {a : Addr} {xs : List V} {i : Int} {v : V} {Q : VK} (h : SqL K H a xs) (e : atI xs i = some v) (q : Q v H) : rIx K (.ref a) (.int i) H Q := .inl ⟨_, _, _, _, rfl, rfl, h, e, q⟩
theorem at_pos {α : Type} {xs : List α} {i : Int} {v : α} (h : 0 ≤ i) (e : xs[i.toNat]? = some v) : atI xs i = some v := by
  have hl := (List.getElem?_eq_some_iff.mp e).1
  unfold atI ixN
  rw [if_pos h, if_pos (by omega)]
  exact e
theorem menu_pick {xs : List V} {i : Int} {P : V → Prop} (Good : V → Prop) (h : ∃ v, atI xs i = some v ∧ Good v) (k : ∀ v, Good v → P v) : ∃ v, atI xs i = some v ∧ P v := h.elim fun v q => ⟨v, q.1, k v q.2⟩
theorem cut_int {ns : List Int} {lo hi : Option Int} {i : Nat} {x : V} (h : (cutV (ns.map V.int) lo hi)[i]? = some x) : ∃ c, x = .int c := by
  have m := List.mem_of_getElem? h
  unfold cutV at m
  have m2 := List.mem_of_mem_drop (List.mem_of_mem_take m)
  obtain ⟨c, -, e⟩ := List.mem_map.mp m2
  exact ⟨c, e.symm⟩
theorem sIx_pos {n d : Nat} {v : Int} (h : 0 ≤ v) : HT.sIx n d (some v) = min v.toNat n := by
  show (if v < 0 then (v + (n : Int)).toNat else min v.toNat n) = _
  rw [if_neg (by omega)]
theorem cut_len {xs : List V} {a b : Int} (h0 : 0 ≤ a) (h1 : a ≤ b) : (cutV xs (some a) (some b)).length ≤ (b - a).toNat := by
  unfold cutV
  rw [List.length_take, List.length_drop]
  rw [sIx_pos h0, sIx_pos (by omega)]
  omega
def sp_cell (K : PySem.W.Frag) : Sp := fun vs H Q _ => ∃ a j ns, vs = [.ref a, .int j] ∧ SqL K H a (ns.map V.int) ∧ 0 ≤ j ∧ Q (.int (cell ns j)) H
section
variable {P : Program} {w : World} {K : PySem.W.Frag} {mg : Str → Option Value} {base : Heap}
theorem f__law_cell_at (T : Tx K mg) : Fn P w K mg base 1 "_law_cell_at" ["_law_script", "_law_k"] (sp_cell K) := by
  refine T.mkFn 4 18 (d := d__law_cell_at) (N := ["_law_script", "_law_k"]) (k := 0) rfl rfl rfl rfl rfl sc__law_cell_at (fun _ _ _ _ _ _ us hl => match us, hl with | [_, _], _ => rfl) (fun vs H Q E h => ?len) (fun cdv A outer s H vs Q E hr h => ⟨_,
      (pss_cons (ps_if (pt_cmpR op_lt (pv 1) (pe_callB (call_lenK (K := K) rfl) (by rfl) (T.free 33) PySem.boot_len (pa_cons (pv 0) pa_nil)) (nomark _)) (pss_one (ps_ret (pe_ix (ix_seqK (K := K) rfl) (pv 0) (pv 1) (fun _ _ => rfl)))) pss_nil)
        (pss_one (ps_ret pe_int))), ?rd⟩)
  case len => obtain ⟨a, j, ns, rfl, _⟩ := h; rfl
  case rd =>
    obtain ⟨a, j, ns, rfl, hS, h0, q⟩ := h
    walk_at "x"
    refine r_lenS hS ?_
    walk_at "x"
    rw [List.length_map]
    unfold cell at q
    split
    · rename_i c
      have e : ns[j.toNat]? = some ns[j.toNat] := List.getElem?_eq_getElem (by omega)
      rw [List.getD_eq_getElem?_getD, e] at q
      exact r_ixS hS (at_pos h0 (by rw [List.getElem?_map, e]; rfl)) q
    · rw [List.getD_eq_getElem?_getD, List.getElem?_eq_none (by omega)] at q
      exact q
theorem f__law_whole (T : Tx K mg) : FnH P w K mg base 1 "_law_whole" ["_law_found"] (sp_is_whole) := by
  refine T.mkFnH 5 19 (d := d__law_whole) (N := ["_law_found"]) (k := 0) rfl rfl rfl rfl rfl sc__law_whole (fun _ _ _ _ _ _ us hl => match us, hl with | [_], _ => rfl) (fun vs H Q E h => ?len) (fun cdv A outer s H vs Q hr h => ⟨_,
      (pss_one (ps_ret (pe_and (pe_callB call_gIsi (by rfl) (T.free 32) (by decide +kernel) (pa_cons (pv 0) (pa_cons (pe_ty (T := "int") (T.free 37) (by decide +kernel) (by rfl)) pa_nil))) (pe_one (pe_not (pe_callB call_gIsi (by rfl) (T.free 32) (by decide +kernel) (pa_cons (pv 0) (pa_cons (pe_ty (T := "bool") (T.free 38) (by decide +kernel) (by rfl)) pa_nil)))))))), ?rd⟩)
  case len => exact len_is_whole h
  case rd =>
    obtain ⟨v, rfl⟩ : ∃ v, vs = [v] := by unfold sp_is_whole at h; split at h <;> first | exact ⟨_, rfl⟩ | exact h.elim
    walk_at "x"
    cases v with
    | int n => exact whole_int h
    | _ => exact whole_odd h.1 h.2
end


/-! ## numbers as texts -/
local macro_rules | `(tactic| walk_at "wt") => `(tactic| try simp only [↓x_var0, ↓x_varS, ↓x_c, ↓x_op, ↓x_un, ↓x_cb, ↓x_nil, ↓x_cons, ↓x_test, ↓x_b, ↓x_ex, ↓x_and, ↓x_or, ↓x_not, ↓x_andV, ↓x_orV, ↓x_notV, ↓x_tif, ↓x_chain, ↓x_menu, ↓x_menuI, ↓x_lst, ↓x_tup, ↓x_dnew, ↓x_callW, ↓x_callN, ↓x_seq, ↓x_next, ↓x_ret, ↓x_retN, ↓x_drop, ↓x_ifS, ↓x_asg, ↓x_name, ↓x_raise, ↓x_fld, ↓x_setF, ↓x_meth, ↓x_make, ↓x_sub, ↓r_min, ↓r_max, ↓x_yes, ↓x_for, ↓x_lock, ↓x_keys, ↓x_cut, ↓x_lc, ↓x_rng1, ↓x_rng2, ↓x_lst1, ↓x_itup, ↓x_rng3, ↓x_three, ↓x_lstg, ↓x_tupg, ↓x_adrS, ↓x_one, ↓x_two, ↓x_adr, ↓x_sl, ↓x_np, ↓x_pt, ↓x_int, ↓x_bm, ↓x_bm0, ↓x_consg, ↓x_nilg, ↓x_dget2, ↓x_dget1, ↓x_dget, ↓x_din, ↓x_dni, ↓x_dput, ↓x_dpop2, ↓r_isB, ↓r_notB, ↓x_enum, ↓x_zip, ↓x_str, ↓x_strE, ↓r_inS, ↓r_ninS, wipe, List.map_cons, List.map_nil, ↓x_isT, ↓r_isiII, ↓r_isiBB, ↓r_isiIB, ↓r_isiSS, ↓r_neNS, ↓r_neSN, ↓r_neNN, ↓r_eqNS, ↓r_eqSN, ↓r_eqNN, ↓r_eqIS, ↓r_neIS, ↓r_neSI, ↓r_neBS, ↓r_eqBB, ↓r_neBB, ↓x_start, ↓x_K, ↓x_start0, ↓r_i0, ↓r_i, ↓r_u, ↓r_addI, ↓r_addS, ↓r_mulI, ↓r_mulS, ↓r_eqI, ↓r_neI, ↓r_eqS, ↓r_neS, ↓r_absI, ↓r_intI, ↓r_intB, List.length_cons, List.length_nil, List.replicate, List.set_cons_zero, List.set_cons_succ, decide_eq_true_eq, Bool.not_eq_true', decide_eq_false_iff_not, if_true, if_false, Bool.false_eq_true, Bool.true_eq_false, ite_true, ite_false, Bool.not_true, Bool.not_false, c_div, n_ten, c_pow, not_true_eq_false, not_false_eq_true, decide_true, decide_false, true_and, and_true, and_self, true_or, or_true, Int.reduceLT, Int.reduceLE, Int.reduceMul, Int.reduceAdd, Int.reduceSub, Int.reducePow, Int.reduceNeg, Int.reduceDiv, Int.reduceMod, Nat.reducePow, Int.reduceToNat, Int.reduceEq, Int.reduceNe, Nat.reduceLT, Nat.reduceLeDiff, Nat.reduceAdd, ↓x_whole, ↓r_repS])
def isDig (c : Nat) : Bool := decide (48 ≤ c ∧ c ≤ 57)
def valL (l : List Nat) : Nat := PySem.NumText.digitsVal l
def bodyP (p : List Nat) : List Nat := if p.take 1 = [45] then p.drop 1 else p
def numP (p : List Nat) : Option Int :=
  if bodyP p = [] ∨ 60 < (bodyP p).length ∨ ((bodyP p).head? = some 48 ∧ p ≠ [48]) then none
  else if (bodyP p).all isDig = true then some (if p.take 1 = [45] then -(valL (bodyP p) : Int) else (valL (bodyP p) : Int)) else none
theorem figs_tl : TL.tl ("0123456789" : Str) = [48, 49, 50, 51, 52, 53, 54, 55, 56, 57] := by decide +kernel
theorem fig_in {c : Nat} : decide (c ∈ TL.tl ("0123456789" : Str)) = isDig c := by
  rw [figs_tl]
  unfold isDig
  congr 1
  simp only [List.mem_cons, List.not_mem_nil, or_false, eq_iff_iff]
  omega
theorem fig_inP {c : Nat} : (c ∈ TL.tl ("0123456789" : Str)) = (isDig c = true) := by
  rw [← fig_in]
  exact propext ⟨decide_eq_true, of_decide_eq_true⟩
theorem body_len {p : List Nat} : (bodyP p).length ≤ p.length := by
  unfold bodyP
  split
  · rw [List.length_drop]
    omega
  · exact Nat.le_refl _
theorem bodyP_lit : Sg [45] = ("-" : Str) ∧ Sg [] = ("" : Str) ∧ Sg [48] = ("0" : Str) := ⟨by decide +kernel, by decide +kernel, by decide +kernel⟩
theorem sg_is {l m : List Nat} {z : Str} (e : Sg m = z) : (Sg l = z) = (l = m) := by rw [← e]; exact propext Sg_inj
def sp_number_of (K : PySem.W.Frag) : Sp := fun vs H Q E => ∃ p : List Nat, vs = [.str (Sg p)] ∧ p.length ≤ 1000000 ∧ match numP p with
  | none => E (Ex K "NoDeed") none H
  | some n => Q (.int n) H
theorem int_text {p : List Nat} {n : Int} (h : numP p = some n) : PySem.intText? (Sg p) = some n ∧ (Sg p).length ≤ 640 := by
  unfold numP at h
  split at h
  · cases h
  · rename_i c
    split at h
    · rename_i d
      have e := Option.some.inj h
      have ad : PySem.NumText.AllDigits (bodyP p) := fun x m => of_decide_eq_true (List.all_eq_true.mp d x m)
      have nn : bodyP p ≠ [] := fun z => c (.inl z)
      have bl : (bodyP p).length ≤ 60 := by
        have : ¬ 60 < (bodyP p).length := fun z => c (.inr (.inl z))
        omega
      by_cases m : p.take 1 = [45]
      · have eb : bodyP p = p.drop 1 := if_pos m
        have ep : p = 45 :: bodyP p := by rw [eb, ← List.take_append_drop 1 p, m]; rfl
        have el : p.length = (bodyP p).length + 1 := by conv => lhs; rw [ep]
                                                        rfl
        rw [if_pos m] at e
        refine ⟨?_, by rw [Sg_len]; omega⟩
        rw [← e]
        exact PySem.intText_neg ep ad nn (by rw [Sg_len]; omega)
      · have eb : bodyP p = p := if_neg m
        rw [if_neg m] at e
        rw [eb] at ad nn bl e
        refine ⟨?_, by rw [Sg_len]; omega⟩
        rw [← e]
        exact PySem.intText_digits (x := Sg p) ad nn (by rw [Sg_len]; omega)
    · cases h
section
variable {P : Program} {w : World} {K : PySem.W.Frag} {mg : Str → Option Value} {base : Heap}
theorem f_number_of (T : Tx K mg) : Fn P w K mg base 1 "number_of" ["part"] (sp_number_of K) := by
  refine T.mkFn 2 16 (d := d_number_of) (N := ["part", "figures", "sign"]) (k := 0) rfl rfl rfl rfl rfl sc_number_of (fun _ _ _ _ _ _ us hl => match us, hl with | [_], _ => rfl) (fun vs H Q E h => ?len) (fun cdv A outer s H vs Q E hr h => ⟨_,
      (pss_cons (ps_set (i := 1) sc_number_of.nd rfl (Or.inl rfl) (pv 0))
        (pss_cut (ps_if (pt_cmpR (op_eqK (K := K) rfl hr.units) (pe_slice sl_str (pv 0) po_none (po_some pe_int)) pe_str (nomark _)) (pss_one (ps_set (i := 1) sc_number_of.nd rfl (Or.inl rfl) (pe_slice sl_str (pv 0) (po_some pe_int) po_none))) pss_nil)
        (pss_cons (ps_if (PW.pt (pw_or (pt_cmpR (op_eqK (K := K) rfl hr.units) (pv 1) pe_str (nomark _)) (pw_or (pt_cmpR op_gt (pe_callB (call_lenK (K := K) rfl) (by rfl) (T.free 33) PySem.boot_len (pa_cons (pv 1) pa_nil)) (pe_num (T.num 31) (by rfl)) (nomark _)) (pw_or1 (PW.pt (pw_and (pt_cmpR (op_eqK (K := K) rfl hr.units) (pe_ix (ix_seqK (K := K) rfl) (pv 1) pe_int (fun _ _ => rfl)) pe_str (nomark _)) (pw_and1 (pt_cmpR (op_neK (K := K) rfl hr.units) (pv 0) pe_str (nomark _))))))))) (pss_one (ps_raiseK (K := K) rfl rfl (takes_of rfl rfl rfl rfl) (T.says.fact 53 rfl) (T.glo 11) (by rfl))) pss_nil)
        (pss_cons (ps_for (passes_of rfl) rfl (pi_str (pv 1)) (pg_name (i := 2) sc_number_of.nd rfl (Or.inl rfl)) (pss_one (ps_if (pt_cmpR op_gNinS (pv 2) (pe_txt (T.txt 30) (by rfl)) (by rfl)) (pss_one (ps_raiseK (K := K) rfl rfl (takes_of rfl rfl rfl rfl) (T.says.fact 53 rfl) (T.glo 11) (by rfl))) pss_nil)))
        (pss_one (ps_ret (pe_callTy call_gIntS (by rfl) (T.free 37) (by decide +kernel) (pa_cons (pv 0) pa_nil)))))))), ?rd⟩)
  case len => obtain ⟨p, rfl, _⟩ := h; rfl
  case rd =>
    obtain ⟨p, rfl, hl, h⟩ := h
    have sz : 10000000 ≤ sizeLine := by rw [sizeLine_eq]; omega
    walk_at "wt"
    have e1 := bodyP_lit.1
    have e2 := bodyP_lit.2.1
    have e3 := bodyP_lit.2.2
    have bl : (bodyP p).length ≤ p.length := body_len
    refine ⟨fun σ' H' => H' = H ∧ σ' = [some (.str (Sg p)), some (.str (Sg (bodyP p))), none], ?_, ?_⟩
    · refine r_slStr (by omega) ?_
      rw [cutL_to1]
      walk_at "wt"
      simp only [sg_is e1]
      unfold bodyP
      split
      · refine r_slStr (by omega) ⟨rfl, ?_⟩
        rw [cutL_from1]
      · exact rfl
    rintro σ' H' ⟨rfl, rfl⟩
    walk_at "wt"
    have none_ : (bodyP p = [] ∨ 60 < (bodyP p).length ∨ ((bodyP p).head? = some 48 ∧ p ≠ [48])) → E (Ex K "NoDeed") none H' := fun c => by
      have hn : numP p = none := by
        unfold numP
        rw [if_pos c]
      rw [hn] at h
      exact h
    simp only [sg_is e2]
    split
    · rename_i c
      exact none_ (.inl c)
    rename_i c1
    refine r_lenStr ⟨by omega, ?_⟩
    walk_at "wt"
    split
    · exact none_ (.inr (.inl (by omega)))
    rename_i c2
    obtain ⟨c0, r0, er⟩ : ∃ c r, bodyP p = c :: r := by
      cases e : bodyP p with
      | nil => exact absurd e c1
      | cons c r => exact ⟨c, r, rfl⟩
    refine r_ixStr (i := 0) (by omega) (by rw [er]; rfl) ?_
    walk_at "wt"
    simp only [sg_is e3]
    have loop : ¬ ((bodyP p).head? = some 48 ∧ p ≠ [48]) → ForW (Its (Sg (bodyP p))) (gName 2) (tIfS (tTest (tOp gNinS (tVar 2) (tC (V.str "0123456789")))) (G.tRaise (He.ga K "NoDeed") fun cls d x H => E cls d H) tNext) { nx := tRet (tCB gIntS (tCons (tVar 0) tNil)) { nx := fun x H' => Q V.non H', rt := Q }, rt := Q } [some (V.str (Sg p)), some (V.str (Sg (bodyP p))), none] H' := fun c3 => by
      have cc : ¬ (bodyP p = [] ∨ 60 < (bodyP p).length ∨ ((bodyP p).head? = some 48 ∧ p ≠ [48])) := by
        rintro (z | z | z)
        · exact c1 z
        · omega
        · exact c3 z
      refine forW_str (fun i σ H => H = H' ∧ (∀ c ∈ (bodyP p).take i, isDig c = true) ∧ ∃ o, σ = [some (V.str (Sg p)), some (V.str (Sg (bodyP p))), o]) ⟨rfl, (fun c m => by rw [List.take_zero] at m; exact (List.not_mem_nil m).elim), _, rfl⟩ ?_ ?_
      · rintro i c σ H ec ⟨rfl, ad, o, rfl⟩
        walk_at "wt"
        simp only [fig_inP]
        cases ed : isDig c with
        | false =>
          walk_at "wt"
          have hn : numP p = none := by
            unfold numP
            rw [if_neg cc, if_neg]
            intro al
            have := List.all_eq_true.mp al c (List.mem_of_getElem? ec)
            rw [ed] at this
            cases this
          rw [hn] at h
          exact h
        | true =>
          walk_at "wt"
          refine ⟨fun d m => ?_, _, rfl⟩
          rw [List.take_add_one, ec] at m
          rcases List.mem_append.mp m with m | m
          · exact ad d m
          · rw [List.mem_singleton.mp m]
            exact ed
      · rintro σ H ⟨rfl, ad, o, rfl⟩
        rw [List.take_length] at ad
        walk_at "wt"
        have hs : ∃ n, numP p = some n := by
          unfold numP
          rw [if_neg cc, if_pos (List.all_eq_true.mpr ad)]
          exact ⟨_, rfl⟩
        obtain ⟨n, en⟩ := hs
        rw [en] at h
        obtain ⟨i1, i2⟩ := int_text en
        exact ⟨_, _, rfl, i1, i2, h⟩
    split
    · rename_i c4
      have e0 : c0 = 48 := (List.cons.inj c4).1
      split
      · rename_i c5
        exact none_ (.inr (.inr ⟨by rw [er, e0]; rfl, c5⟩))
      · rename_i c5
        exact loop fun z => c5 z.2
    · rename_i c4
      refine loop fun z => c4 ?_
      have z1 := z.1
      rw [er] at z1
      rw [show c0 = 48 from Option.some.inj z1]
end

local macro_rules | `(tactic| walk_at "wt") => `(tactic| try simp only [↓x_var0, ↓x_varS, ↓x_c, ↓x_op, ↓x_un, ↓x_cb, ↓x_nil, ↓x_cons, ↓x_test, ↓x_b, ↓x_ex, ↓x_and, ↓x_or, ↓x_not, ↓x_andV, ↓x_orV, ↓x_notV, ↓x_tif, ↓x_chain, ↓x_menu, ↓x_menuI, ↓x_lst, ↓x_tup, ↓x_dnew, ↓x_callW, ↓x_callN, ↓x_seq, ↓x_next, ↓x_ret, ↓x_retN, ↓x_drop, ↓x_ifS, ↓x_asg, ↓x_name, ↓x_raise, ↓x_fld, ↓x_setF, ↓x_meth, ↓x_make, ↓x_sub, ↓r_min, ↓r_max, ↓x_yes, ↓x_for, ↓x_lock, ↓x_keys, ↓x_cut, ↓x_lc, ↓x_rng1, ↓x_rng2, ↓x_lst1, ↓x_itup, ↓x_rng3, ↓x_three, ↓x_lstg, ↓x_tupg, ↓x_adrS, ↓x_one, ↓x_two, ↓x_adr, ↓x_sl, ↓x_np, ↓x_pt, ↓x_int, ↓x_bm, ↓x_bm0, ↓x_consg, ↓x_nilg, ↓x_dget2, ↓x_dget1, ↓x_dget, ↓x_din, ↓x_dni, ↓x_dput, ↓x_dpop2, ↓r_isB, ↓r_notB, ↓x_enum, ↓x_zip, ↓x_str, ↓x_strE, ↓r_inS, ↓r_ninS, wipe, List.map_cons, List.map_nil, ↓x_isT, ↓r_isiII, ↓r_isiBB, ↓r_isiIB, ↓r_isiSS, ↓r_neNS, ↓r_neSN, ↓r_neNN, ↓r_eqNS, ↓r_eqSN, ↓r_eqNN, ↓r_eqIS, ↓r_neIS, ↓r_neSI, ↓r_neBS, ↓r_eqBB, ↓r_neBB, ↓x_start, ↓x_K, ↓x_start0, ↓r_i0, ↓r_i, ↓r_u, ↓r_addI, ↓r_addS, ↓r_mulI, ↓r_mulS, ↓r_eqI, ↓r_neI, ↓r_eqS, ↓r_neS, ↓r_absI, ↓r_intI, ↓r_intB, List.length_cons, List.length_nil, List.replicate, List.set_cons_zero, List.set_cons_succ, decide_eq_true_eq, Bool.not_eq_true', decide_eq_false_iff_not, if_true, if_false, Bool.false_eq_true, Bool.true_eq_false, ite_true, ite_false, Bool.not_true, Bool.not_false, c_div, n_ten, c_pow, not_true_eq_false, not_false_eq_true, decide_true, decide_false, true_and, and_true, and_self, true_or, or_true, Int.reduceLT, Int.reduceLE, Int.reduceMul, Int.reduceAdd, Int.reduceSub, Int.reducePow, Int.reduceNeg, Int.reduceDiv, Int.reduceMod, Nat.reducePow, Int.reduceToNat, Int.reduceEq, Int.reduceNe, Nat.reduceLT, Nat.reduceLeDiff, Nat.reduceAdd, ↓x_whole, ↓r_repS, ↓r_repS])
/-! ## deeds as texts -/
def wd0 : List V := [.str "young", .str "all", .str "said"]
def wd1 : List V := [.str "drop", .str "read", .str "name"]
def wd2 : List V := [.str "make", .str "keep", .str "share", .str "find", .str "last"]
def wd3 : List V := [.str "take", .str "put"]
def partsN (w : Str) : Int := if inV (.str w) wd0 = true then 0 else if inV (.str w) wd1 = true then 1 else if inV (.str w) wd2 = true then 2 else if inV (.str w) wd3 = true then 3 else -1
def numsP : List (List Nat) → Option (List Int)
  | [] => some []
  | p :: r => match numP p with
    | none => none
    | some n => (numsP r).map (n :: ·)
def deedP (l : List Nat) : Option (List Nat × List Int) := match TL.spl [32] 0 [] l with
  | [] => none
  | w :: r => if partsN (Sg w) = r.length then (numsP r).map fun ns => (w, ns) else none
theorem spl_cons {acc l : List Nat} {c s : Nat} : TL.spl [s] 0 acc (c :: l) = if c = s then acc :: TL.spl [s] 0 [] l else TL.spl [s] 0 (acc ++ [c]) l := by
  split
  · rename_i h
    subst h
    exact TL.spl_hit (by unfold TL.pre; simp)
  · rename_i h
    exact TL.spl_miss (by unfold TL.pre; simp [h])
theorem spl_ne {s : Nat} : ∀ {l acc : List Nat}, TL.spl [s] 0 acc l ≠ []
  | [], acc => by rw [TL.spl_nil]; exact List.cons_ne_nil _ _
  | c :: l, acc => by
    rw [spl_cons]
    split
    · exact List.cons_ne_nil _ _
    · exact spl_ne
theorem spl_le {s : Nat} : ∀ {l acc : List Nat}, (TL.spl [s] 0 acc l).length ≤ l.length + 1 ∧ ∀ p ∈ TL.spl [s] 0 acc l, p.length ≤ acc.length + l.length
  | [], acc => by
    rw [TL.spl_nil]
    exact ⟨Nat.le_refl _, fun p m => by rw [List.mem_singleton.mp m]; exact Nat.le_add_right _ _⟩
  | c :: l, acc => by
    rw [spl_cons]
    split
    · obtain ⟨h1, h2⟩ := spl_le (s := s) (l := l) (acc := [])
      refine ⟨Nat.succ_le_succ h1, fun p m => ?_⟩
      rcases List.mem_cons.mp m with rfl | m
      · exact Nat.le_add_right _ _
      · have := h2 p m
        rw [List.length_nil] at this
        rw [List.length_cons]
        omega
    · obtain ⟨h1, h2⟩ := spl_le (s := s) (l := l) (acc := acc ++ [c])
      refine ⟨Nat.le_succ_of_le h1, fun p m => ?_⟩
      have := h2 p m
      rw [List.length_append] at this
      rw [List.length_cons]
      have : ([c] : List Nat).length = 1 := rfl
      omega
theorem numsP_some : ∀ {ps : List (List Nat)} {ns : List Int}, numsP ps = some ns → ns.length = ps.length ∧ ∀ (i : Nat) (p : List Nat), ps[i]? = some p → ∃ n, numP p = some n ∧ ns[i]? = some n
  | [], ns, h => by
    cases h
    exact ⟨rfl, fun i p e => by cases e⟩
  | q :: r, ns, h => by
    unfold numsP at h
    cases eq : numP q with
    | none => rw [eq] at h; cases h
    | some n =>
      rw [eq] at h
      dsimp only at h
      cases er : numsP r with
      | none => rw [er] at h; cases h
      | some ms =>
        rw [er] at h
        cases h
        obtain ⟨h1, h2⟩ := numsP_some er
        refine ⟨congrArg (· + 1) h1, fun i p e => ?_⟩
        cases i with
        | zero => cases e; exact ⟨n, eq, rfl⟩
        | succ i => exact h2 i p e
theorem numsP_none : ∀ {ps : List (List Nat)}, numsP ps = none → ∃ p ∈ ps, numP p = none
  | [], h => by cases h
  | q :: r, h => by
    unfold numsP at h
    cases eq : numP q with
    | none => exact ⟨q, List.mem_cons_self, eq⟩
    | some n =>
      rw [eq] at h
      dsimp only at h
      cases er : numsP r with
      | none =>
        obtain ⟨p, m, e⟩ := numsP_none er
        exact ⟨p, List.mem_cons_of_mem _ m, e⟩
      | some ms => rw [er] at h; cases h
theorem numsP_app : ∀ {ps : List (List Nat)} {ns : List Int} {p : List Nat} {n : Int}, numsP ps = some ns → numP p = some n → numsP (ps ++ [p]) = some (ns ++ [n])
  | [], ns, p, n, h, e => by
    cases h
    show numsP [p] = some [n]
    unfold numsP
    rw [e]
    rfl
  | q :: r, ns, p, n, h, e => by
    unfold numsP at h
    cases eq : numP q with
    | none => rw [eq] at h; cases h
    | some m =>
      rw [eq] at h
      dsimp only at h
      cases er : numsP r with
      | none => rw [er] at h; cases h
      | some ms =>
        rw [er] at h
        cases h
        show numsP (q :: (r ++ [p])) = some (m :: (ms ++ [n]))
        unfold numsP
        rw [eq]
        dsimp only
        rw [numsP_app er e]
        rfl
theorem numsP_of : ∀ {ps : List (List Nat)}, (∀ p ∈ ps, ∃ n, numP p = some n) → ∃ ns, numsP ps = some ns
  | [], _ => ⟨[], rfl⟩
  | q :: r, h => by
    obtain ⟨n, e⟩ := h q List.mem_cons_self
    obtain ⟨ns, e2⟩ := numsP_of fun p m => h p (List.mem_cons_of_mem _ m)
    refine ⟨n :: ns, ?_⟩
    unfold numsP
    rw [e, e2]
    rfl
theorem SgL_at {ps : List (List Nat)} {i : Nat} {p : List Nat} (h : ps[i]? = some p) : (SgL ps)[i]? = some (V.str (Sg p)) := by
  unfold SgL
  rw [List.getElem?_map, h]
  rfl
theorem SgL_mem {ps : List (List Nat)} {i : Nat} {x : V} (h : (SgL ps)[i]? = some x) : ∃ p, ps[i]? = some p ∧ x = V.str (Sg p) := by
  unfold SgL at h
  rw [List.getElem?_map] at h
  cases e : ps[i]? with
  | none => rw [e] at h; cases h
  | some p => rw [e] at h; cases h; exact ⟨p, rfl, rfl⟩
theorem SgL_len {ps : List (List Nat)} : (SgL ps).length = ps.length := List.length_map ..
theorem blank_lit : (" " : Str) = Sg [32] := by decide +kernel
def sp_parts_of (_ : PySem.W.Frag) : Sp := fun vs H Q _ => ∃ w, vs = [.str w] ∧ ∀ H', Same H H' → Q (.int (partsN w)) H'
def sp_deed_of (K : PySem.W.Frag) : Sp := fun vs H Q E => ∃ v, vs = [v] ∧ ((∃ l, v = .str (Sg l) ∧ l.length ≤ 1000000 ∧ match deedP l with
  | none => ∀ H', Same H H' → E (Ex K "NoDeed") none H'
  | some (w, ns) => ∀ t H', H t = none → Same H H' → H' t = some (.tup (.str (Sg w) :: ns.map V.int)) → Q (.ref t) H') ∨ ∃ t, tyOf v H = some t ∧ t ≠ "str" ∧ E (Ex K "NoDeed") none H)
section
variable {P : Program} {w : World} {K : PySem.W.Frag} {mg : Str → Option Value} {base : Heap}
theorem f_parts_of (T : Tx K mg) : Fn P w K mg base 1 "parts_of" ["word"] (sp_parts_of K) := by
  refine T.mkFn 0 14 (d := d_parts_of) (N := ["word"]) (k := 0) rfl rfl rfl rfl rfl sc_parts_of (fun _ _ _ _ _ _ us hl => match us, hl with | [_], _ => rfl) (fun vs H Q E h => ?len) (fun cdv A outer s H vs Q E hr h => ⟨_,
      (pss_cons (ps_if (pt_cmpR (op_inTG (K := K) rfl (hu65 hr)) (pv 0) (pe_tup (pa_cons pe_str (pa_cons pe_str (pa_cons pe_str pa_nil)))) (by rfl)) (pss_one (ps_ret pe_int)) pss_nil)
        (pss_cons (ps_if (pt_cmpR (op_inTG (K := K) rfl (hu65 hr)) (pv 0) (pe_tup (pa_cons pe_str (pa_cons pe_str (pa_cons pe_str pa_nil)))) (by rfl)) (pss_one (ps_ret pe_int)) pss_nil)
        (pss_cons (ps_if (pt_cmpR (op_inTG (K := K) rfl (hu65 hr)) (pv 0) (pe_tup (pa_cons pe_str (pa_cons pe_str (pa_cons pe_str (pa_cons pe_str (pa_cons pe_str pa_nil)))))) (by rfl)) (pss_one (ps_ret pe_int)) pss_nil)
        (pss_cons (ps_if (pt_cmpR (op_inTG (K := K) rfl (hu65 hr)) (pv 0) (pe_tup (pa_cons pe_str (pa_cons pe_str pa_nil))) (by rfl)) (pss_one (ps_ret pe_int)) pss_nil)
        (pss_one (ps_ret (pe_un un_neg pe_int))))))), ?rd⟩)
  case len => obtain ⟨_, rfl, _⟩ := h; rfl
  case rd =>
    obtain ⟨w, rfl, q⟩ := h
    have sz : 1000 ≤ sizeLine := by rw [sizeLine_eq]; omega
    walk_at "wt"
    unfold partsN at q
    refine ⟨by omega, fun t1 n1 => r_inT (xs := wd0) upd_same rfl rfl ?_⟩
    have s1 := same_new (o := .tup wd0) n1
    refine ⟨_, rfl, ?_⟩
    split
    · rename_i c
      rw [if_pos c] at q
      exact q _ s1
    rename_i c
    rw [if_neg c] at q
    refine ⟨by omega, fun t2 n2 => r_inT (xs := wd1) upd_same rfl rfl ?_⟩
    have s2 := s1.trans (same_new (o := .tup wd1) n2)
    refine ⟨_, rfl, ?_⟩
    split
    · rename_i c
      rw [if_pos c] at q
      exact q _ s2
    rename_i c
    rw [if_neg c] at q
    refine ⟨by omega, fun t3 n3 => r_inT (xs := wd2) upd_same rfl rfl ?_⟩
    have s3 := s2.trans (same_new (o := .tup wd2) n3)
    refine ⟨_, rfl, ?_⟩
    split
    · rename_i c
      rw [if_pos c] at q
      exact q _ s3
    rename_i c
    rw [if_neg c] at q
    refine ⟨by omega, fun t4 n4 => r_inT (xs := wd3) upd_same rfl rfl ?_⟩
    have s4 := s3.trans (same_new (o := .tup wd3) n4)
    refine ⟨_, rfl, ?_⟩
    split
    · rename_i c
      rw [if_pos c] at q
      exact q _ s4
    rename_i c
    rw [if_neg c] at q
    exact q _ s4
theorem f_deed_of (T : Tx K mg) : Fn P w K mg base 2 "deed_of" ["line"] (sp_deed_of K) := by
  have c_parts_of := f_parts_of (P := P) (w := w) (base := base) T
  have c_number_of := f_number_of (P := P) (w := w) (base := base) T
  refine T.mkFn 3 17 (d := d_deed_of) (N := ["line", "parts", "part"]) (k := 1) rfl rfl rfl rfl rfl sc_deed_of (fun _ _ _ _ _ _ us hl => match us, hl with | [_], _ => rfl) (fun vs H Q E h => ?len) (fun cdv A outer s H vs Q E hr h => ⟨_,
      (pss_cons (ps_if (pt_not (pt_val (pe_callB call_gIsi (by rfl) (T.free 32) (by decide +kernel) (pa_cons (pv 0) (pa_cons (pe_ty (T := "str") (T.free 39) (by decide +kernel) (by rfl)) pa_nil))))) (pss_one (ps_raiseK (K := K) rfl rfl (takes_of rfl rfl rfl rfl) (T.says.fact 53 rfl) (T.glo 11) (by rfl))) pss_nil)
        (pss_cons (ps_set (i := 1) sc_deed_of.nd rfl (Or.inl rfl) (pe_bm PySem.F.plainAttrs_str PySem.F.slot_str_split PySem.F.type_str_split mt_splitG (pv 0) (pa_cons pe_str pa_nil)))
        (pss_cons (ps_if (pt_cmpR (op_neK (K := K) rfl hr.units) (pe_fn (takes_of rfl rfl rfl rfl) c_parts_of (hr.mono (by decide)) (by rfl) (pa_cons (pe_ix (ix_seqK (K := K) rfl) (pv 1) pe_int (fun _ _ => rfl)) pa_nil)) (pe_op op_sub (pe_callB (call_lenK (K := K) rfl) (by rfl) (T.free 33) PySem.boot_len (pa_cons (pv 1) pa_nil)) pe_int) (nomark _)) (pss_one (ps_raiseK (K := K) rfl rfl (takes_of rfl rfl rfl rfl) (T.says.fact 53 rfl) (T.glo 11) (by rfl))) pss_nil)
        (pss_one (ps_ret (pe_callTy (call_tupK (K := K) rfl) (by rfl) (T.free 40) (by decide +kernel) (pa_cons (pe_op op_gAdd (pe_lst (pa_cons (pe_ix (ix_seqK (K := K) rfl) (pv 1) pe_int (fun _ _ => rfl)) pa_nil)) (pe_lcX (own := [("part", 2)]) (g := gName 2) (takes_of rfl rfl rfl rfl) rfl rfl rfl sc_deed_of.nd (pi_listK (K := K) rfl (pe_slice (sl_listK (K := K) rfl) (pv 1) (po_some pe_int) po_none)) (blkOk_by (own := [("part", 2)]) (N := ["line", "parts", "part"]) (sc := defScope s_deed_of) (by decide +kernel)) (fun _ _ _ _ _ _ => (pg_name (i := 2) sc_deed_of.nd rfl (Or.inl rfl))) (fun _ _ _ _ _ _ => pts_nil) (fun _ _ _ _ _ _ E tk => (pe_fn tk c_number_of (hr.mono (by decide)) (by rfl) (pa_cons (pv 2) pa_nil))))) pa_nil))))))), ?rd⟩)
  case len => obtain ⟨_, rfl, _⟩ := h; rfl
  case rd =>
    obtain ⟨v, rfl, h⟩ := h
    have sz : 10000000 ≤ sizeLine := by rw [sizeLine_eq]; omega
    walk_at "wt"
    rcases h with ⟨l, rfl, hl, h⟩ | ⟨t, et, ne, h⟩
    · walk_at "wt"
      rw [blank_lit]
      refine ⟨rfl, r_split (by decide) (by omega) fun p np => ?_⟩
      have s1 := same_new (o := .lst (SgL (TL.spl [32] 0 [] l))) np
      have hp : upd H p (.lst (SgL (TL.spl [32] 0 [] l))) p = some (.lst (SgL (TL.spl [32] 0 [] l))) := upd_same
      generalize upd H p (.lst (SgL (TL.spl [32] 0 [] l))) = H1 at s1 hp ⊢
      obtain ⟨w0, r0, es⟩ : ∃ w r, TL.spl [32] 0 [] l = w :: r := by
        cases e : TL.spl [32] 0 [] l with
        | nil => exact absurd e spl_ne
        | cons w r => exact ⟨w, r, rfl⟩
      obtain ⟨le1, le2⟩ := spl_le (s := 32) (l := l) (acc := [])
      unfold deedP at h
      rw [es] at hp h le1 le2
      dsimp only at h
      rw [List.length_cons] at le1
      walk_at "wt"
      refine r_ixL hp (v := .str (Sg w0)) rfl ⟨Sg w0, rfl, fun H2 s2 => ?_⟩
      have hp2 := s2 _ _ hp
      refine r_lenL hp2 ?_
      rw [SgL_len, List.length_cons]
      walk_at "wt"
      split
      · rw [if_neg (by omega)] at h
        exact h _ (s1.trans s2)
      rw [if_pos (by omega)] at h
      refine r_ixL (i := 0) hp2 (v := .str (Sg w0)) rfl ⟨by omega, fun p3 n3 => ?_⟩
      have s3 := same_new (o := .lst [.str (Sg w0)]) n3
      have h3 : upd H2 p3 (.lst [.str (Sg w0)]) p3 = some (.lst [.str (Sg w0)]) := upd_same
      have hp3 := s3 _ _ hp2
      generalize upd H2 p3 (.lst [.str (Sg w0)]) = H3 at s3 h3 hp3 ⊢
      refine ⟨p, _, rfl, .of hp3, fun p4 n4 => ?_⟩
      rw [cutV_one, show (SgL (w0 :: r0)).drop 1 = SgL r0 from rfl]
      have s4 := same_new (o := .lst (SgL r0)) n4
      have h4 : upd H3 p4 (.lst (SgL r0)) p4 = some (.lst (SgL r0)) := upd_same
      have h34 := s4 _ _ h3
      generalize upd H3 p4 (.lst (SgL r0)) = H4 at s4 h4 h34 ⊢
      have s04 := ((s1.trans s2).trans s3).trans s4
      walk_at "wt"
      refine ⟨⟨_, .of h4⟩, fun D nD => ?_⟩
      have nDH := none_of s04 nD
      refine lc_list (xs := SgL r0) (fun i Hx => ∃ ns, numsP (r0.take i) = some ns ∧ Hx = upd H4 D (.lst (ns.map V.int))) ⟨[], rfl, rfl⟩ (fun i Hx _ e => ?_) ?_ ?_
      · obtain ⟨ns, -, rfl⟩ := e
        exact .of ((upd_ne (ne_of_none h4 nD)).trans h4)
      · rintro i x Hx hx ⟨ns, en, rfl⟩
        obtain ⟨pp, ep, rfl⟩ := SgL_mem hx
        have mp := List.mem_of_getElem? ep
        have lp := le2 pp (List.mem_cons_of_mem _ mp)
        rw [List.length_nil] at lp
        refine ⟨rfl, tYes_on ?_⟩
        walk_at "wt"
        refine ⟨pp, rfl, by omega, ?_⟩
        cases e5 : numP pp with
        | none =>
          have hn : numsP r0 = none := by
            cases e6 : numsP r0 with
            | none => rfl
            | some ms =>
              obtain ⟨n, e7, -⟩ := (numsP_some e6).2 i pp ep
              rw [e5] at e7
              cases e7
          rw [hn] at h
          exact h _ (s04.trans (same_new nD))
        | some n =>
          dsimp only
          have hl2 := (numsP_some en).1
          refine ⟨_, upd_same, by rw [List.length_map, hl2, List.length_take]; omega, ns ++ [n], ?_, ?_⟩
          · rw [List.take_add_one, ep]
            exact numsP_app en e5
          · rw [upd_upd, List.map_append]
            rfl
      · rintro Hx ⟨ns, en, rfl⟩
        rw [SgL_len, List.take_length] at en
        have hl2 := (numsP_some en).1
        rw [en] at h
        have sD := same_new (o := .lst (ns.map V.int)) nD
        refine ⟨_, _, sD _ _ h34, upd_same, by rw [List.length_map]; show 1 + ns.length ≤ _; omega, fun p5 n5 => ?_⟩
        have s5 := same_new (o := .lst ([.str (Sg w0)] ++ ns.map V.int)) n5
        refine r_tupL (.of upd_same) fun t nt => ?_
        have s6 := same_new (o := .tup ([.str (Sg w0)] ++ ns.map V.int)) nt
        have s06 := ((s04.trans sD).trans s5).trans s6
        exact h t _ (none_of ((s04.trans sD).trans s5) nt) s06 upd_same
    · refine r_isi et ?_
      have eb : isB t "str" = false := by
        unfold isB
        rw [Bool.or_eq_false_iff]
        exact ⟨by simpa using ne, by simp⟩
      rw [eb]
      walk_at "wt"
      exact h
end

local macro_rules | `(tactic| walk_at "wt") => `(tactic| try simp only [↓x_var0, ↓x_varS, ↓x_c, ↓x_op, ↓x_un, ↓x_cb, ↓x_nil, ↓x_cons, ↓x_test, ↓x_b, ↓x_ex, ↓x_and, ↓x_or, ↓x_not, ↓x_andV, ↓x_orV, ↓x_notV, ↓x_tif, ↓x_chain, ↓x_menu, ↓x_menuI, ↓x_lst, ↓x_tup, ↓x_dnew, ↓x_callW, ↓x_callN, ↓x_seq, ↓x_next, ↓x_ret, ↓x_retN, ↓x_drop, ↓x_ifS, ↓x_asg, ↓x_name, ↓x_raise, ↓x_fld, ↓x_setF, ↓x_meth, ↓x_make, ↓x_sub, ↓r_min, ↓r_max, ↓x_yes, ↓x_for, ↓x_lock, ↓x_keys, ↓x_cut, ↓x_lc, ↓x_rng1, ↓x_rng2, ↓x_lst1, ↓x_itup, ↓x_rng3, ↓x_three, ↓x_lstg, ↓x_tupg, ↓x_adrS, ↓x_one, ↓x_two, ↓x_adr, ↓x_sl, ↓x_np, ↓x_pt, ↓x_int, ↓x_bm, ↓x_bm0, ↓x_consg, ↓x_nilg, ↓x_dget2, ↓x_dget1, ↓x_dget, ↓x_din, ↓x_dni, ↓x_dput, ↓x_dpop2, ↓r_isB, ↓r_notB, ↓x_enum, ↓x_zip, ↓x_str, ↓x_strE, ↓r_inS, ↓r_ninS, wipe, List.map_cons, List.map_nil, ↓x_isT, ↓r_isiII, ↓r_isiBB, ↓r_isiIB, ↓r_isiSS, ↓r_neNS, ↓r_neSN, ↓r_neNN, ↓r_eqNS, ↓r_eqSN, ↓r_eqNN, ↓r_eqIS, ↓r_neIS, ↓r_neSI, ↓r_neBS, ↓r_eqBB, ↓r_neBB, ↓x_start, ↓x_K, ↓x_start0, ↓r_i0, ↓r_i, ↓r_u, ↓r_addI, ↓r_addS, ↓r_mulI, ↓r_mulS, ↓r_eqI, ↓r_neI, ↓r_eqS, ↓r_neS, ↓r_absI, ↓r_intI, ↓r_intB, List.length_cons, List.length_nil, List.replicate, List.set_cons_zero, List.set_cons_succ, decide_eq_true_eq, Bool.not_eq_true', decide_eq_false_iff_not, if_true, if_false, Bool.false_eq_true, Bool.true_eq_false, ite_true, ite_false, Bool.not_true, Bool.not_false, c_div, n_ten, c_pow, not_true_eq_false, not_false_eq_true, decide_true, decide_false, true_and, and_true, and_self, true_or, or_true, Int.reduceLT, Int.reduceLE, Int.reduceMul, Int.reduceAdd, Int.reduceSub, Int.reducePow, Int.reduceNeg, Int.reduceDiv, Int.reduceMod, Nat.reducePow, Int.reduceToNat, Int.reduceEq, Int.reduceNe, Nat.reduceLT, Nat.reduceLeDiff, Nat.reduceAdd, ↓x_whole, ↓r_repS, ↓r_repS, ↓r_repS])
/-! ## figures -/
def figL (n : Int) : List Nat := (if n < 0 then [45] else []) ++ TL.numL n.natAbs
theorem str_int (n : Int) : (Str.ofString (toString n)) = Sg (figL n) := by
  cases n with
  | ofNat m =>
    refine TL.ext_tl ?_
    have : figL (Int.ofNat m) = TL.numL m := by
      unfold figL
      rw [if_neg (show ¬ Int.ofNat m < 0 from Int.not_lt.mpr (Int.natCast_nonneg m))]
      rfl
    rw [this]
    exact TL.tl_num m
  | negSucc m =>
    refine TL.ext_tl ?_
    have : figL (Int.negSucc m) = 45 :: TL.numL (m + 1) := by
      unfold figL
      rw [if_pos (Int.negSucc_lt_zero m)]
      rfl
    rw [this]
    have e1 : TL.tl (Str.ofString (toString (m + 1))) = TL.numL (m + 1) := TL.tl_num (m + 1)
    show TL.tl (Str.ofString ("-" ++ toString (m + 1))) = 45 :: TL.numL (m + 1)
    rw [TL.tl_ofString] at e1 ⊢
    rw [String.toList_append, List.map_append, e1]
    rfl
theorem figL_len {n : Int} (h : n.natAbs < 10 ^ 100) : (figL n).length ≤ 101 := by
  have := TL.numL_len (n := n.natAbs) (k := 100) (by omega) h
  unfold figL
  rw [List.length_append]
  split
  · show 1 + _ ≤ _
    omega
  · show 0 + _ ≤ _
    omega
theorem fig_log {n : Int} (h : n.natAbs < 10 ^ 100) : n.natAbs.log2 < 1920 := by
  by_cases z : n.natAbs = 0
  · rw [z]
    decide
  · exact (Nat.log2_lt z).mpr (Nat.lt_trans h (by decide +kernel))
theorem numL_head {n : Nat} (h : 0 < n) : (TL.numL n).head? ≠ some 48 := by
  induction n using Nat.strongRecOn with
  | _ n ih =>
    by_cases c : n < 10
    · rw [TL.numL_lt c]
      intro z
      have := Option.some.inj z
      omega
    · rw [TL.numL_step (by omega)]
      have := ih (n / 10) (by omega) (by omega)
      cases e : TL.numL (n / 10) with
      | nil => exact absurd e (TL.numL_ne _)
      | cons a r =>
        rw [e] at this
        exact this
theorem fig_num {n : Int} (h : n.natAbs < 10 ^ 60) : numP (figL n) = some n := by
  have ad := TL.numL_digits n.natAbs
  have ne := TL.numL_ne n.natAbs
  have hl := TL.numL_len (n := n.natAbs) (k := 60) (by omega) h
  have hv : valL (TL.numL n.natAbs) = n.natAbs := TL.numL_val _
  have al : (TL.numL n.natAbs).all isDig = true := List.all_eq_true.mpr fun c m => decide_eq_true (ad c m)
  by_cases c : n < 0
  · have ef : figL n = 45 :: TL.numL n.natAbs := by unfold figL; rw [if_pos c]; rfl
    have eb : bodyP (figL n) = TL.numL n.natAbs := by rw [ef]; rfl
    have hh := numL_head (n := n.natAbs) (by omega)
    unfold numP
    rw [eb, if_neg, if_pos al, if_pos (by rw [ef]; rfl), hv]
    · congr 1
      omega
    · rintro (z | z | z)
      · exact ne z
      · omega
      · exact hh z.1
  · have ef : figL n = TL.numL n.natAbs := by unfold figL; rw [if_neg c]; rfl
    have nt : ¬ (figL n).take 1 = [45] := by
      rw [ef]
      cases e : TL.numL n.natAbs with
      | nil => exact absurd e ne
      | cons a r =>
        have := ad a (by rw [e]; exact List.mem_cons_self)
        intro z
        have z : [a] = [45] := z
        have := (List.cons.inj z).1
        omega
    have eb : bodyP (figL n) = TL.numL n.natAbs := by
      unfold bodyP
      rw [if_neg nt, ef]
    unfold numP
    rw [eb, if_neg, if_pos al, if_neg nt, hv]
    · congr 1
      omega
    · rintro (z | z | z)
      · exact ne z
      · omega
      · by_cases c0 : n.natAbs = 0
        · refine z.2 ?_
          rw [ef, c0]
          rfl
        · exact numL_head (by omega) z.1
theorem fig_free {n : Int} : 32 ∉ figL n := by
  intro m
  unfold figL at m
  rcases List.mem_append.mp m with m | m
  · split at m
    · exact absurd (List.mem_singleton.mp m) (by decide)
    · exact List.not_mem_nil m
  · exact TL.numL_free (.inl (by decide)) m
def lineP (w : List Nat) (ns : List Int) : List Nat := TL.joinL [32] (w :: ns.map figL)
theorem deed_line {w : List Nat} {ns : List Int} (hw : 32 ∉ w) (hp : partsN (Sg w) = ns.length) (hn : ∀ n ∈ ns, n.natAbs < 10 ^ 60) : deedP (lineP w ns) = some (w, ns) := by
  unfold deedP lineP
  rw [TL.spl_join (List.cons_ne_nil _ _) (fun p m => by
    rcases List.mem_cons.mp m with rfl | m
    · exact hw
    · obtain ⟨n, -, rfl⟩ := List.mem_map.mp m
      exact fig_free)]
  dsimp only
  rw [if_pos (by rw [List.length_map]; exact hp)]
  have : ∀ ms : List Int, (∀ n ∈ ms, n.natAbs < 10 ^ 60) → numsP (ms.map figL) = some ms := by
    intro ms
    induction ms with
    | nil => intro _; rfl
    | cons n r ih =>
      intro hm
      show numsP (figL n :: r.map figL) = _
      unfold numsP
      rw [fig_num (hm n List.mem_cons_self), ih fun x m => hm x (List.mem_cons_of_mem _ m)]
      rfl
  rw [this ns hn]
  rfl
def W13 : List V := [.str "young", .str "all", .str "said", .str "drop", .str "read", .str "name", .str "make", .str "keep", .str "share", .str "find", .str "last", .str "take", .str "put"]
def C13 : List V := [.int 0, .int 0, .int 0, .int 1, .int 1, .int 1, .int 2, .int 2, .int 2, .int 2, .int 2, .int 3, .int 3]
theorem sumlen_le {B : Nat} : ∀ {ps : List (List Nat)}, (∀ p ∈ ps, p.length ≤ B) → (ps.map List.length).sum ≤ ps.length * B
  | [], _ => Nat.zero_le _
  | p :: r, h => by
    have h1 := h p List.mem_cons_self
    have h2 := sumlen_le (ps := r) fun x m => h x (List.mem_cons_of_mem _ m)
    rw [List.map_cons, List.sum_cons, List.length_cons, Nat.succ_mul]
    omega
theorem find_dig {c : Nat} : Txt.find ("0123456789" : Str) (Sg [c]) = if isDig c = true then ((c : Int) - 48) else -1 := by
  cases e : isDig c with
  | true =>
    have e := of_decide_eq_true e
    rw [if_pos rfl]
    obtain ⟨k, rfl, hk⟩ : ∃ k, c = 48 + k ∧ k < 10 := ⟨c - 48, by omega, by omega⟩
    have : k = 0 ∨ k = 1 ∨ k = 2 ∨ k = 3 ∨ k = 4 ∨ k = 5 ∨ k = 6 ∨ k = 7 ∨ k = 8 ∨ k = 9 := by omega
    rcases this with rfl | rfl | rfl | rfl | rfl | rfl | rfl | rfl | rfl | rfl <;> decide +kernel
  | false =>
    rw [if_neg Bool.false_ne_true]
    rcases PyProof.Rows.find_whole ("0123456789" : Str) (Sg [c]) with h | ⟨i, h1, h2, -⟩
    · exact h.1
    · have h3 := (TL.at_iff (y := Sg [c]) (List.cons_ne_nil _ _) i).mp h2
      have m : c ∈ TL.tl ("0123456789" : Str) := by
        unfold TL.pre at h3
        have h4 := eq_of_beq h3
        have : c ∈ ((TL.tl ("0123456789" : Str)).drop i).take 1 := by
          rw [show ((TL.tl ("0123456789" : Str)).drop i).take 1 = [c] from h4]
          exact List.mem_singleton_self _
        exact List.mem_of_mem_drop (List.mem_of_mem_take this)
      rw [fig_inP, e] at m
      cases m
theorem valL_app {l : List Nat} {c : Nat} : valL (l ++ [c]) = valL l * 10 + (c - 48) := by
  unfold valL PySem.NumText.digitsVal
  rw [List.foldl_append]
  rfl
def sp_line_of (K : PySem.W.Frag) : Sp := fun vs H Q _ => ∃ d w, ∃ ns : List Int, vs = [.ref d] ∧ H d = some (.tup (.str (Sg w) :: ns.map V.int)) ∧ w.length ≤ 1000 ∧ ns.length ≤ 10 ∧ (∀ n ∈ ns, n.natAbs < 10 ^ 100) ∧ ∀ H', Same H H' → Q (.str (Sg (lineP w ns))) H'
def sp_sign (_ : PySem.W.Frag) : Sp := fun vs H Q _ => ∃ k, vs = [.int k] ∧ ∀ c, Q (.str (Sg [c])) H
def sp_words22 (_ : PySem.W.Frag) : Sp := fun vs H Q _ => vs = [] ∧ ∀ t a b H', H t = none → Same H H' → H' t = some (.tup [.ref a, .ref b]) → H' a = some (.lst W13) → H' b = some (.lst C13) → Q (.ref t) H'
def sp_figures (_ : PySem.W.Frag) : Sp := fun vs H Q _ => ∃ n, vs = [.int n] ∧ n.natAbs < 10 ^ 100 ∧ Q (.str (Sg (figL n))) H
def sp_number_by (_ : PySem.W.Frag) : Sp := fun vs H Q _ => ∃ c, vs = [.int c] ∧ ∀ n, n.natAbs < 10 ^ 60 → Q (.int n) H
def optV : Option Int → V
  | none => .non
  | some n => .int n
def sp_number22 (_ : PySem.W.Frag) : Sp := fun vs H Q _ => ∃ p, vs = [.str (Sg p)] ∧ p.length ≤ 1000000 ∧ Q (optV (numP p)) H
theorem dig_at {k : Nat} (h : k < 10) : atI (TL.tl ("0123456789" : Str)) (k : Int) = some (48 + k) := by
  rw [figs_tl]
  have : k = 0 ∨ k = 1 ∨ k = 2 ∨ k = 3 ∨ k = 4 ∨ k = 5 ∨ k = 6 ∨ k = 7 ∨ k = 8 ∨ k = 9 := by omega
  rcases this with rfl | rfl | rfl | rfl | rfl | rfl | rfl | rfl | rfl | rfl <;> rfl
theorem r_ixDig {K : PySem.W.Frag} {H : Hp} {Q : VK} {i : Int} {k : Nat} (e : i = (k : Int)) (h : k < 10) (q : Q (.str (Sg [48 + k])) H) : rIx K (.str "0123456789") (.int i) H Q := by
  subst e
  exact .inr (.inr ⟨_, _, _, rfl, rfl, by rw [sizeLine_eq]; decide +kernel, dig_at h, q⟩)
section
variable {P : Program} {w : World} {K : PySem.W.Frag} {mg : Str → Option Value} {base : Heap}
theorem f_line_of (T : Tx K mg) : Fn P w K mg base 1 "line_of" ["deed"] (sp_line_of K) := by
  refine T.mkFn 1 15 (d := d_line_of) (N := ["deed", "number"]) (k := 0) rfl rfl rfl rfl rfl sc_line_of (fun _ _ _ _ _ _ us hl => match us, hl with | [_], _ => rfl) (fun vs H Q E h => ?len) (fun cdv A outer s H vs Q E hr h => ⟨_,
      (pss_one (ps_ret (pe_bm PySem.F.plainAttrs_str PySem.F.slot_str_join PySem.F.type_str_join (mt_joinK (K := K) rfl) pe_str (pa_cons (pe_op op_gAdd (pe_lst (pa_cons (pe_ix (ix_seqK (K := K) rfl) (pv 0) pe_int (fun _ _ => rfl)) pa_nil)) (pe_lc (own := [("number", 1)]) (g := gName 1) rfl sc_line_of.nd (pi_tup (pe_slice sl_tup (pv 0) (po_some pe_int) po_none)) (blkOk_by (own := [("number", 1)]) (N := ["deed", "number"]) (sc := defScope s_line_of) (by decide +kernel)) (fun _ _ _ _ _ => (pg_name (i := 1) sc_line_of.nd rfl (Or.inl rfl))) (fun _ _ _ _ _ => pts_nil) (fun _ _ _ _ _ => (pe_callTy call_gStrI (by rfl) (T.free 39) (by decide +kernel) (pa_cons (pv 1) pa_nil))))) pa_nil)))), ?rd⟩)
  case len => obtain ⟨_, _, _, rfl, _⟩ := h; rfl
  case rd =>
    obtain ⟨d, w, ns, rfl, hd, hw, hl, hn, q⟩ := h
    have sz : 10000000 ≤ sizeLine := by rw [sizeLine_eq]; omega
    walk_at "wt"
    refine ⟨rfl, r_ixT (i := 0) hd rfl ?_⟩
    refine ⟨by omega, fun p np => ?_⟩
    have s1 := same_new (o := .lst [.str (Sg w)]) np
    have hp : upd H p (.lst [.str (Sg w)]) p = some (.lst [.str (Sg w)]) := upd_same
    have hd1 := s1 _ _ hd
    generalize upd H p (.lst [.str (Sg w)]) = H1 at s1 hp hd1 ⊢
    refine ⟨d, _, rfl, .inl (.inl hd1), fun z => ?_, fun p2 n2 => ?_⟩
    · have z1 := z.1
      rw [show HT.sIx _ 0 (some 1) = min 1 _ from HT.sIx_nat _ _ 1, List.length_cons] at z1
      omega
    rw [cutV_one, show (V.str (Sg w) :: ns.map V.int).drop 1 = ns.map V.int from rfl]
    have s2 := same_new (o := .tup (ns.map V.int)) n2
    have h2 : upd H1 p2 (.tup (ns.map V.int)) p2 = some (.tup (ns.map V.int)) := upd_same
    have hp2 := s2 _ _ hp
    generalize upd H1 p2 (.tup (ns.map V.int)) = H2 at s2 h2 hp2 ⊢
    walk_at "wt"
    refine ⟨⟨_, .inl (.inl h2)⟩, fun D nD => ?_⟩
    refine lc_tup (xs := ns.map V.int) (fun i Hx => Hx = upd H2 D (.lst (SgL ((ns.take i).map figL)))) rfl (fun i Hx _ e => ?_) ?_ ?_
    · subst e
      exact .inl (.inl ((upd_ne (ne_of_none h2 nD)).trans h2))
    · rintro i x Hx hx rfl
      obtain ⟨n, rfl, mn⟩ := ints_mem hx
      have en : ns[i]? = some n := by
        rw [List.getElem?_map] at hx
        cases e : ns[i]? with
        | none => rw [e] at hx; cases hx
        | some y => rw [e] at hx; cases hx; rfl
      have hi := (List.getElem?_eq_some_iff.mp en).1
      refine ⟨rfl, tYes_on ?_⟩
      walk_at "wt"
      refine r_strI (fig_log (hn n mn)) ?_
      rw [str_int]
      refine ⟨_, upd_same, by rw [SgL_len, List.length_map, List.length_take]; omega, ?_⟩
      rw [upd_upd, List.take_add_one, en, List.map_append]
      unfold SgL
      rw [List.map_append]
      rfl
    · rintro Hx rfl
      rw [List.length_map, List.take_length]
      have sD := same_new (o := .lst (SgL (ns.map figL))) nD
      refine ⟨_, _, sD _ _ hp2, upd_same, by rw [SgL_len, List.length_map]; show 1 + ns.length ≤ _; omega, fun p5 n5 => ?_⟩
      have s5 := same_new (o := .lst ([.str (Sg w)] ++ SgL (ns.map figL))) n5
      rw [blank_lit]
      refine r_join (ps := w :: ns.map figL) (.of upd_same) ?_ (q _ (((s1.trans s2).trans sD).trans s5))
      have := sumlen_le (B := 1000) (ps := w :: ns.map figL) fun p m => by
        rcases List.mem_cons.mp m with rfl | m
        · exact hw
        · obtain ⟨n, mn, rfl⟩ := List.mem_map.mp m
          exact Nat.le_trans (figL_len (hn n mn)) (by decide)
      rw [List.length_cons, List.length_map] at this ⊢
      show _ + _ * 1 ≤ _
      omega
theorem f__law_sign_by (T : Tx K mg) : Fn P w K mg base 1 "_law_sign_by" ["_law_cell"] (sp_sign K) := by
  refine T.mkFn 6 20 (d := d__law_sign_by) (N := ["_law_cell", "_law_some"]) (k := 0) rfl rfl rfl rfl rfl sc__law_sign_by (fun _ _ _ _ _ _ us hl => match us, hl with | [_], _ => rfl) (fun vs H Q E h => ?len) (fun cdv A outer s H vs Q E hr h => ⟨_,
      (pss_cons (ps_set (i := 1) sc__law_sign_by.nd rfl (Or.inl rfl) pe_str)
        (pss_cons (ps_set (i := 1) sc__law_sign_by.nd rfl (Or.inl rfl) (pe_op op_gAdd (pv 1) pe_str))
        (pss_one (ps_ret (pe_ix (ix_seqK (K := K) rfl) (pv 1) (pe_op op_mod (pv 0) pe_int) (fun _ _ => rfl)))))), ?rd⟩)
  case len => obtain ⟨_, rfl, _⟩ := h; rfl
  case rd =>
    obtain ⟨k, rfl, q⟩ := h
    have sz : 10000000 ≤ sizeLine := by rw [sizeLine_eq]; omega
    walk_at "wt"
    refine ⟨by rw [sizeLine_eq]; decide +kernel, ?_⟩
    have hl : (TL.tl ((" !\"#$&'()*+,-./0123456789:;<=>?@ABCDEFGHIJKLMNOPQRSTUVWXYZ[\\]^_`" : Str) ++ ("abcdefghijklmnopqrstuvwxyz{|}~\n\t" : Str))).length = 96 := by decide +kernel
    obtain ⟨i, ei⟩ := Int.eq_ofNat_of_zero_le (Int.emod_nonneg k (show (96 : Int) ≠ 0 by decide))
    have hi : i < 96 := by omega
    rw [ei]
    exact .inr (.inr ⟨_, _, _, rfl, rfl, by rw [sizeLine_eq]; decide +kernel, atI_nat (List.getElem?_eq_getElem (by rw [hl]; exact hi)), q _⟩)
theorem f__law_words (T : Tx K mg) : Fn P w K mg base 1 "_law_words" [] (sp_words22 K) := by
  refine T.mkFn 7 21 (d := d__law_words) (N := ["_law_first"]) (k := 0) rfl rfl rfl rfl rfl sc__law_words (fun _ _ _ _ _ _ us hl => match us, hl with | [], _ => rfl) (fun vs H Q E h => ?len) (fun cdv A outer s H vs Q E hr h => ⟨_,
      (pss_cons (ps_set (i := 0) sc__law_words.nd rfl (Or.inl rfl) (pe_lst (pa_cons pe_str (pa_cons pe_str (pa_cons pe_str (pa_cons pe_str (pa_cons pe_str (pa_cons pe_str (pa_cons pe_str (pa_cons pe_str (pa_cons pe_str (pa_cons pe_str (pa_cons pe_str (pa_cons pe_str (pa_cons pe_str pa_nil)))))))))))))))
        (pss_one (ps_ret (pe_tup (pa_cons (pv 0) (pa_cons (pe_lst (pa_cons pe_int (pa_cons pe_int (pa_cons pe_int (pa_cons pe_int (pa_cons pe_int (pa_cons pe_int (pa_cons pe_int (pa_cons pe_int (pa_cons pe_int (pa_cons pe_int (pa_cons pe_int (pa_cons pe_int (pa_cons pe_int pa_nil)))))))))))))) pa_nil)))))), ?rd⟩)
  case len => obtain ⟨rfl, _⟩ := h; rfl
  case rd =>
    obtain ⟨rfl, q⟩ := h
    have sz : 10000000 ≤ sizeLine := by rw [sizeLine_eq]; omega
    walk_at "wt"
    refine ⟨by omega, fun a na => ⟨by omega, fun b nb => ⟨by omega, fun t nt => ?_⟩⟩⟩
    have s1 := same_new (o := .lst W13) na
    have s2 := same_new (o := .lst C13) nb
    have s3 := same_new (o := .tup [.ref a, .ref b]) nt
    exact q t a b _ (none_of (s1.trans s2) nt) ((s1.trans s2).trans s3) upd_same ((s2.trans s3) _ _ upd_same) (s3 _ _ upd_same)
theorem f__law_figures (T : Tx K mg) : Fn P w K mg base 1 "_law_figures" ["_law_number_here"] (sp_figures K) := by
  refine T.mkFn 8 22 (d := d__law_figures) (N := ["_law_number_here", "_law_found", "_law_left"]) (k := 0) rfl rfl rfl rfl rfl sc__law_figures (fun _ _ _ _ _ _ us hl => match us, hl with | [_], _ => rfl) (fun vs H Q E h => ?len) (fun cdv A outer s H vs Q E hr h => ⟨_,
      (pss_cons (ps_set (i := 1) sc__law_figures.nd rfl (Or.inl rfl) (pe_ix (ix_seqK (K := K) rfl) pe_str (pe_op op_mod (pe_callB call_gAbs (by rfl) (T.free 34) (by decide +kernel) (pa_cons (pv 0) pa_nil)) pe_int) (fun _ _ => rfl)))
        (pss_cons (ps_set (i := 2) sc__law_figures.nd rfl (Or.inl rfl) (pe_op op_fdiv (pe_callB call_gAbs (by rfl) (T.free 34) (by decide +kernel) (pa_cons (pv 0) pa_nil)) pe_int))
        (pss_cons (ps_while (passes_of rfl) (pt_cmpR op_gt (pv 2) pe_int (nomark _)) (pss_cons (ps_set (i := 1) sc__law_figures.nd rfl (Or.inl rfl) (pe_op op_gAdd (pe_ix (ix_seqK (K := K) rfl) pe_str (pe_op op_mod (pv 2) pe_int) (fun _ _ => rfl)) (pv 1)))
        (pss_one (ps_set (i := 2) sc__law_figures.nd rfl (Or.inl rfl) (pe_op op_fdiv (pv 2) pe_int)))))
        (pss_one (ps_ret (pe_op op_gAdd (pe_op op_gMul pe_str (pe_callTy call_gInt (by rfl) (T.free 37) (by decide +kernel) (pa_cons (pe_cmpR op_lt (pv 0) pe_int (nomark _)) pa_nil))) (pv 1))))))), ?rd⟩)
  case len => obtain ⟨_, rfl, _⟩ := h; rfl
  case rd =>
    obtain ⟨n, rfl, hn, q⟩ := h
    have sz : 10000000 ≤ sizeLine := by rw [sizeLine_eq]; omega
    walk_at "wt"
    refine r_ixDig (k := n.natAbs % 10) (by omega) (by omega) ?_
    have hl := TL.numL_len (n := n.natAbs) (k := 100) (by omega) hn
    refine whW (fun k σ H' => H' = H ∧ ∃ (lf : Nat) (fd : List Nat), σ = [some (.int n), some (.str (Sg fd)), some (.int lf)] ∧ k = lf ∧ TL.numL n.natAbs = (if lf = 0 then [] else TL.numL lf) ++ fd) ⟨n.natAbs / 10, rfl, n.natAbs / 10, _, by rw [show ((n.natAbs : Int) / 10) = ((n.natAbs / 10 : Nat) : Int) from by omega], rfl, ?_⟩ ?_
    · split
      · rw [TL.numL_lt (by omega)]
        congr 2
        omega
      · rw [TL.numL_step (by omega)]
    rintro k σ H' ⟨rfl, lf, fd, rfl, rfl, e⟩
    have fl : fd.length ≤ 100 := by
      have := congrArg List.length e
      rw [List.length_append] at this
      omega
    walk_at "wt"
    split
    · rename_i c
      refine whB ?_
      walk_at "wt"
      refine r_ixDig (k := k % 10) (by omega) (by omega) ?_
      walk_at "wt"
      refine ⟨by rw [Sg_len, Sg_len]; show 1 + _ ≤ _; omega, ?_⟩
      rw [Sg_add]
      refine ⟨k / 10, by omega, k / 10, _, by rw [show ((k : Int) / 10) = ((k / 10 : Nat) : Int) from by omega], rfl, ?_⟩
      rw [e, if_neg (by omega), ← List.append_assoc]
      congr 1
      split
      · rw [TL.numL_lt (by omega)]
        show [48 + k] = [48 + k % 10]
        congr 1
        omega
      · rw [TL.numL_step (by omega)]
    · rename_i c
      obtain rfl : k = 0 := by omega
      rw [if_pos rfl, List.nil_append] at e
      walk_at "wt"
      have em : ("-" : Str) = Sg [45] := by decide +kernel
      unfold figL at q
      rw [e] at q
      by_cases c : n < 0
      · simp only [if_pos c, if_true, em]
        rw [if_pos c] at q
        refine ⟨.inr trivial, by rw [Sg_len, Sg_len]; show 1 + _ ≤ _; omega, ?_⟩
        rw [Sg_add]
        exact q
      · rw [if_neg c] at q
        simp only [if_neg c]
        rw [if_neg (by decide)]
        refine ⟨.inl trivial, by have := Sg_len fd; show 0 + (Sg fd).length ≤ _; omega, ?_⟩
        rw [show (Str.empty : Str) = Sg [] from rfl, Sg_add]
        exact q
theorem f__law_number_by (T : Tx K mg) : Fn P w K mg base 1 "_law_number_by" ["_law_cell"] (sp_number_by K) := by
  refine T.mkFn 9 23 (d := d__law_number_by) (N := ["_law_cell"]) (k := 0) rfl rfl rfl rfl rfl sc__law_number_by (fun _ _ _ _ _ _ us hl => match us, hl with | [_], _ => rfl) (fun vs H Q E h => ?len) (fun cdv A outer s H vs Q E hr h => ⟨_,
      (pss_cons (ps_if (pt_cmpR (op_eqK (K := K) rfl hr.units) (pe_op op_mod (pv 0) pe_int) pe_int (nomark _)) (pss_one (ps_ret (pe_op op_sub (pe_op op_mod (pe_op op_fdiv (pv 0) pe_int) pe_int) pe_int))) pss_nil)
        (pss_cons (ps_if (pt_cmpR (op_eqK (K := K) rfl hr.units) (pe_op op_mod (pv 0) pe_int) pe_int (nomark _)) (pss_one (ps_ret (pe_op op_sub (pe_op op_mod (pe_op op_fdiv (pv 0) pe_int) (pe_op op_gAdd (pe_op op_gMul pe_int (pe_op op_pow pe_int pe_int)) pe_int)) (pe_op op_pow pe_int pe_int)))) pss_nil)
        (pss_one (ps_ret (pe_op op_gAdd (pe_op op_sub (pe_op op_mod (pe_op op_fdiv (pv 0) pe_int) (pe_op op_sub (pe_op op_gMul pe_int (pe_op op_pow pe_int pe_int)) pe_int)) (pe_op op_pow pe_int pe_int)) pe_int))))), ?rd⟩)
  case len => obtain ⟨_, rfl, _⟩ := h; rfl
  case rd =>
    obtain ⟨c, rfl, q⟩ := h
    walk_at "wt"
    split
    · exact q _ (Nat.lt_of_le_of_lt (show _ ≤ 100 by omega) (by decide +kernel))
    split
    · exact q _ (Nat.lt_of_le_of_lt (show _ ≤ 1000000000000 by omega) (by decide +kernel))
    · refine q _ ?_
      rw [show (10 : Nat) ^ 60 = 1000000000000000000000000000000000000000000000000000000000000 from by decide +kernel]
      omega
theorem f__law_number (T : Tx K mg) : Fn P w K mg base 1 "_law_number" ["_law_part"] (sp_number22 K) := by
  refine T.mkFn 10 24 (d := d__law_number) (N := ["_law_part", "_law_figures_here", "_law_number_here", "_law_sign", "_law_at"]) (k := 0) rfl rfl rfl rfl rfl sc__law_number (fun _ _ _ _ _ _ us hl => match us, hl with | [_], _ => rfl) (fun vs H Q E h => ?len) (fun cdv A outer s H vs Q E hr h => ⟨_,
      (pss_cons (ps_set (i := 1) sc__law_number.nd rfl (Or.inl rfl) (pv 0))
        (pss_cut (ps_if (pt_cmpR (op_eqK (K := K) rfl hr.units) (pe_slice sl_str (pv 0) po_none (po_some pe_int)) pe_str (nomark _)) (pss_one (ps_set (i := 1) sc__law_number.nd rfl (Or.inl rfl) (pe_slice sl_str (pv 0) (po_some pe_int) po_none))) pss_nil)
        (pss_cons (ps_if (PW.pt (pw_or (pt_not (pt_chain op_le op_le pe_int (pe_callB (call_lenK (K := K) rfl) (by rfl) (T.free 33) PySem.boot_len (pa_cons (pv 1) pa_nil)) pe_int)) (pw_or1 (PW.pt (pw_and (pt_cmpR (op_eqK (K := K) rfl hr.units) (pe_ix (ix_seqK (K := K) rfl) (pv 1) pe_int (fun _ _ => rfl)) pe_str (nomark _)) (pw_and1 (pt_cmpR (op_neK (K := K) rfl hr.units) (pv 0) pe_str (nomark _)))))))) (pss_one (ps_ret pe_non)) pss_nil)
        (pss_cons (ps_set (i := 2) sc__law_number.nd rfl (Or.inl rfl) pe_int)
        (pss_cons (ps_for (passes_of rfl) rfl (pi_str (pv 1)) (pg_name (i := 3) sc__law_number.nd rfl (Or.inl rfl)) (pss_cons (ps_set (i := 4) sc__law_number.nd rfl (Or.inl rfl) (pe_bm PySem.F.plainAttrs_str PySem.F.slot_str_find PySem.F.type_str_find mt_findG pe_str (pa_cons (pv 3) pa_nil)))
        (pss_cons (ps_if (pt_cmpR op_lt (pv 4) pe_int (nomark _)) (pss_one (ps_ret pe_non)) pss_nil)
        (pss_one (ps_set (i := 2) sc__law_number.nd rfl (Or.inl rfl) (pe_op op_gAdd (pe_op op_gMul pe_int (pv 2)) (pv 4)))))))
        (pss_one (ps_ret (pe_ifExp (pt_cmpR (op_neK (K := K) rfl hr.units) (pv 1) (pv 0) (nomark _)) (pe_op op_sub pe_int (pv 2)) (pv 2))))))))), ?rd⟩)
  case len => obtain ⟨_, rfl, _⟩ := h; rfl
  case rd =>
    obtain ⟨p, rfl, hl, q⟩ := h
    have sz : 10000000 ≤ sizeLine := by rw [sizeLine_eq]; omega
    walk_at "wt"
    have e1 := bodyP_lit.1
    have e3 := bodyP_lit.2.2
    have bl : (bodyP p).length ≤ p.length := body_len
    refine ⟨fun σ' H' => H' = H ∧ σ' = [some (.str (Sg p)), some (.str (Sg (bodyP p))), none, none, none], ?_, ?_⟩
    · refine r_slStr (by omega) ?_
      rw [cutL_to1]
      walk_at "wt"
      simp only [sg_is e1]
      unfold bodyP
      split
      · refine r_slStr (by omega) ⟨rfl, ?_⟩
        rw [cutL_from1]
      · exact rfl
    rintro σ' H' ⟨rfl, rfl⟩
    walk_at "wt"
    refine r_lenStr ⟨by omega, ?_⟩
    walk_at "wt"
    have none_ : (bodyP p = [] ∨ 60 < (bodyP p).length ∨ ((bodyP p).head? = some 48 ∧ p ≠ [48])) → Q .non H' := fun c => by
      have hn : numP p = none := by
        unfold numP
        rw [if_pos c]
      rw [hn] at q
      exact q
    split
    · rename_i c1
      split
      · exact none_ (.inr (.inl (by omega)))
      rename_i c2
      obtain ⟨c0, r0, er⟩ : ∃ c r, bodyP p = c :: r := by
        cases e : bodyP p with
        | nil => rw [e] at c1; exact absurd c1 (by decide)
        | cons c r => exact ⟨c, r, rfl⟩
      refine r_ixStr (i := 0) (by omega) (by rw [er]; rfl) ?_
      walk_at "wt"
      simp only [sg_is e3]
      apply ite_and
      · intro c4 c5
        exact none_ (.inr (.inr ⟨by rw [er, (List.cons.inj c4).1]; rfl, c5⟩))
      intro c6
      have cc : ¬ (bodyP p = [] ∨ 60 < (bodyP p).length ∨ ((bodyP p).head? = some 48 ∧ p ≠ [48])) := by
        rintro (z | z | z)
        · rw [er] at z
          cases z
        · omega
        · refine c6 ⟨?_, z.2⟩
          have z1 := z.1
          rw [er] at z1
          rw [show c0 = 48 from Option.some.inj z1]
      refine forW_str (fun i σ H => H = H' ∧ (∀ c ∈ (bodyP p).take i, isDig c = true) ∧ ∃ o3 o4, σ = [some (V.str (Sg p)), some (V.str (Sg (bodyP p))), some (.int (valL ((bodyP p).take i) : Int)), o3, o4]) ⟨rfl, (fun c m => by rw [List.take_zero] at m; exact (List.not_mem_nil m).elim), _, _, rfl⟩ ?_ ?_
      · rintro i c σ H ec ⟨rfl, ad, o3, o4, rfl⟩
        walk_at "wt"
        refine ⟨rfl, _, _, rfl, rfl, ?_⟩
        rw [find_dig]
        cases ed : isDig c with
        | false =>
          rw [if_neg Bool.false_ne_true]
          walk_at "wt"
          have hn : numP p = none := by
            unfold numP
            rw [if_neg cc, if_neg]
            intro al
            have := List.all_eq_true.mp al c (List.mem_of_getElem? ec)
            rw [ed] at this
            cases this
          rw [hn] at q
          exact q
        | true =>
          have dc := of_decide_eq_true ed
          rw [if_pos rfl]
          walk_at "wt"
          rw [if_neg (by omega)]
          have ev : (10 * (valL ((bodyP p).take i) : Int) + ((c : Int) - 48)) = (valL ((bodyP p).take (i + 1)) : Int) := by
            rw [List.take_add_one, ec]
            show _ = (valL ((bodyP p).take i ++ [c]) : Int)
            rw [valL_app]
            omega
          rw [ev]
          refine ⟨fun d m => ?_, _, _, rfl⟩
          rw [List.take_add_one, ec] at m
          rcases List.mem_append.mp m with m | m
          · exact ad d m
          · rw [List.mem_singleton.mp m]
            exact ed
      · rintro σ H ⟨rfl, ad, o3, o4, rfl⟩
        rw [List.take_length] at ad ⊢
        walk_at "wt"
        simp only [Sg_inj]
        unfold numP at q
        rw [if_neg cc, if_pos (List.all_eq_true.mpr ad)] at q
        by_cases m : p.take 1 = [45]
        · have nb : ¬ bodyP p = p := fun z => by
            have e4 : bodyP p = p.drop 1 := if_pos m
            have e5 := congrArg List.length (e4.symm.trans z)
            rw [List.length_drop] at e5
            cases p with
            | nil => cases m
            | cons a r => rw [List.length_cons] at e5; omega
          rw [if_pos m] at q
          rw [if_pos nb, show (0 : Int) - (valL (bodyP p) : Int) = -(valL (bodyP p) : Int) from by omega]
          exact q
        · rw [if_neg m] at q
          rw [if_neg (fun z => z (if_neg m))]
          exact q
    · rename_i c1
      refine none_ (.inl ?_)
      cases e : bodyP p with
      | nil => rfl
      | cons c r => rw [e, List.length_cons] at c1; omega
end

theorem r_repZ {z : Str} {n : Int} {H : Hp} {Q : VK} : gRepS (.str z) (.int n) H Q = (0 ≤ n ∧ n ≤ 1000 ∧ z.length ≤ 1000 ∧ Q (.str (Sg (repL (TL.tl z) n.toNat))) H) := rfl
local macro_rules | `(tactic| walk_at "wt") => `(tactic| try simp only [↓x_var0, ↓x_varS, ↓x_c, ↓x_op, ↓x_un, ↓x_cb, ↓x_nil, ↓x_cons, ↓x_test, ↓x_b, ↓x_ex, ↓x_and, ↓x_or, ↓x_not, ↓x_andV, ↓x_orV, ↓x_notV, ↓x_tif, ↓x_chain, ↓x_menu, ↓x_menuI, ↓x_lst, ↓x_tup, ↓x_dnew, ↓x_callW, ↓x_callN, ↓x_seq, ↓x_next, ↓x_ret, ↓x_retN, ↓x_drop, ↓x_ifS, ↓x_asg, ↓x_name, ↓x_raise, ↓x_fld, ↓x_setF, ↓x_meth, ↓x_make, ↓x_sub, ↓r_min, ↓r_max, ↓x_yes, ↓x_for, ↓x_lock, ↓x_keys, ↓x_cut, ↓x_lc, ↓x_rng1, ↓x_rng2, ↓x_lst1, ↓x_itup, ↓x_rng3, ↓x_three, ↓x_lstg, ↓x_tupg, ↓x_adrS, ↓x_one, ↓x_two, ↓x_adr, ↓x_sl, ↓x_np, ↓x_pt, ↓x_int, ↓x_bm, ↓x_bm0, ↓x_consg, ↓x_nilg, ↓x_dget2, ↓x_dget1, ↓x_dget, ↓x_din, ↓x_dni, ↓x_dput, ↓x_dpop2, ↓r_isB, ↓r_notB, ↓x_enum, ↓x_zip, ↓x_str, ↓x_strE, ↓r_inS, ↓r_ninS, wipe, List.map_cons, List.map_nil, ↓x_isT, ↓r_isiII, ↓r_isiBB, ↓r_isiIB, ↓r_isiSS, ↓r_neNS, ↓r_neSN, ↓r_neNN, ↓r_eqNS, ↓r_eqSN, ↓r_eqNN, ↓r_eqIS, ↓r_neIS, ↓r_neSI, ↓r_neBS, ↓r_eqBB, ↓r_neBB, ↓x_start, ↓x_K, ↓x_start0, ↓r_i0, ↓r_i, ↓r_u, ↓r_addI, ↓r_addS, ↓r_mulI, ↓r_mulS, ↓r_eqI, ↓r_neI, ↓r_eqS, ↓r_neS, ↓r_absI, ↓r_intI, ↓r_intB, List.length_cons, List.length_nil, List.replicate, List.set_cons_zero, List.set_cons_succ, decide_eq_true_eq, Bool.not_eq_true', decide_eq_false_iff_not, if_true, if_false, Bool.false_eq_true, Bool.true_eq_false, ite_true, ite_false, Bool.not_true, Bool.not_false, c_div, n_ten, c_pow, not_true_eq_false, not_false_eq_true, decide_true, decide_false, true_and, and_true, and_self, true_or, or_true, Int.reduceLT, Int.reduceLE, Int.reduceMul, Int.reduceAdd, Int.reduceSub, Int.reducePow, Int.reduceNeg, Int.reduceDiv, Int.reduceMod, Nat.reducePow, Int.reduceToNat, Int.reduceEq, Int.reduceNe, Nat.reduceLT, Nat.reduceLeDiff, Nat.reduceAdd, ↓x_whole, ↓r_repS, ↓r_repS, ↓r_repS, ↓r_repZ])
def tupD' (w : List Nat) (ns : List Int) : List V := .str (Sg w) :: ns.map V.int
def sp_deed22 (_ : PySem.W.Frag) : Sp := fun vs H Q _ => ∃ l, vs = [.str (Sg l)] ∧ l.length ≤ 100000 ∧ match deedP l with
  | none => ∀ H', Same H H' → Q .non H'
  | some (w, ns) => ∀ t H', H t = none → Same H H' → H' t = some (.tup (.str (Sg w) :: ns.map V.int)) → Q (.ref t) H'
def sp_read22 (_ : PySem.W.Frag) : Sp := fun vs H Q _ => ∃ v, vs = [v] ∧ ((∃ l, v = .str (Sg l) ∧ l.length ≤ 1000000 ∧ match deedP l with
  | none => ∀ H', Same H H' → Q (.bl true) H'
  | some (w, ns) => ∀ t H', H t = none → Same H H' → H' t = some (.tup (.str (Sg w) :: ns.map V.int)) → Q (.ref t) H') ∨ ∃ t, tyOf v H = some t ∧ t ≠ "str" ∧ ∀ H', Same H H' → Q (.bl true) H')
def sp_right22 (_ : PySem.W.Frag) : Sp := fun vs H Q _ => ∃ v d, vs = [v, d] ∧ ((d = .non ∧ ((∃ l, v = .str (Sg l) ∧ l.length ≤ 1000000 ∧ deedP l = none) ∨ ∃ t, tyOf v H = some t ∧ t ≠ "str")) ∨
  (∃ l t w ns, v = .str (Sg l) ∧ l.length ≤ 1000000 ∧ deedP l = some (w, ns) ∧ d = .ref t ∧ H t = some (.tup (.str (Sg w) :: ns.map V.int)))) ∧ ∀ H', Same H H' → Q (.bl true) H'
def sp_changed22 (_ : PySem.W.Frag) : Sp := fun vs H Q _ => ∃ l c m, vs = [.str (Sg l), .int c, .int m] ∧ l.length ≤ 900 ∧ ∀ l2, l2.length ≤ 2000 → Q (.str (Sg l2)) H
def sp_law (K : PySem.W.Frag) : Sp := fun vs H Q _ => ∃ (a : Addr) (ns : List Int), vs = [.ref a] ∧ SqL K H a (ns.map V.int) ∧ ns.length ≤ 63 ∧ ∀ H', Q (.bl true) H'
theorem in_W13 {w : Str} (h : inV (.str w) W13 = true) : ∃ j : Nat, W13[j]? = some (.str w) ∧ (∀ (m : Nat) (z' : V), m < j → W13[m]? = some z' → eqV z' (.str w) = false) ∧ C13[j]? = some (.int (partsN w)) ∧ PyData.strOk w = true ∧ 32 ∉ TL.tl w ∧ w.length ≤ 5 := by
  have e : w = "young" ∨ w = "all" ∨ w = "said" ∨ w = "drop" ∨ w = "read" ∨ w = "name" ∨ w = "make" ∨ w = "keep" ∨ w = "share" ∨ w = "find" ∨ w = "last" ∨ w = "take" ∨ w = "put" := by
    obtain ⟨x, m, ex⟩ := List.any_eq_true.mp h
    simp only [W13, List.mem_cons, List.not_mem_nil, or_false] at m
    rcases m with rfl | rfl | rfl | rfl | rfl | rfl | rfl | rfl | rfl | rfl | rfl | rfl | rfl <;> (have ex := eq_of_beq (show (_ == w) = true from ex); subst ex; simp)
  have fin : ∀ j : Nat, ∀ w : Str, (W13[j]? = some (.str w)) → ((W13.take j).all fun z => !eqV z (.str w)) = true → (∀ (m : Nat) (z' : V), m < j → W13[m]? = some z' → eqV z' (.str w) = false) := fun j w _ ha m z' hm hz => by
    have mz : z' ∈ W13.take j := List.mem_of_getElem? (i := m) (by rw [List.getElem?_take, if_pos hm]; exact hz)
    have := List.all_eq_true.mp ha z' mz
    simpa using this
  rcases e with rfl | rfl | rfl | rfl | rfl | rfl | rfl | rfl | rfl | rfl | rfl | rfl | rfl
  · exact ⟨0, rfl, fin 0 _ rfl (by decide +kernel), by decide +kernel, by decide +kernel, by decide +kernel, by decide +kernel⟩
  · exact ⟨1, rfl, fin 1 _ rfl (by decide +kernel), by decide +kernel, by decide +kernel, by decide +kernel, by decide +kernel⟩
  · exact ⟨2, rfl, fin 2 _ rfl (by decide +kernel), by decide +kernel, by decide +kernel, by decide +kernel, by decide +kernel⟩
  · exact ⟨3, rfl, fin 3 _ rfl (by decide +kernel), by decide +kernel, by decide +kernel, by decide +kernel, by decide +kernel⟩
  · exact ⟨4, rfl, fin 4 _ rfl (by decide +kernel), by decide +kernel, by decide +kernel, by decide +kernel, by decide +kernel⟩
  · exact ⟨5, rfl, fin 5 _ rfl (by decide +kernel), by decide +kernel, by decide +kernel, by decide +kernel, by decide +kernel⟩
  · exact ⟨6, rfl, fin 6 _ rfl (by decide +kernel), by decide +kernel, by decide +kernel, by decide +kernel, by decide +kernel⟩
  · exact ⟨7, rfl, fin 7 _ rfl (by decide +kernel), by decide +kernel, by decide +kernel, by decide +kernel, by decide +kernel⟩
  · exact ⟨8, rfl, fin 8 _ rfl (by decide +kernel), by decide +kernel, by decide +kernel, by decide +kernel, by decide +kernel⟩
  · exact ⟨9, rfl, fin 9 _ rfl (by decide +kernel), by decide +kernel, by decide +kernel, by decide +kernel, by decide +kernel⟩
  · exact ⟨10, rfl, fin 10 _ rfl (by decide +kernel), by decide +kernel, by decide +kernel, by decide +kernel, by decide +kernel⟩
  · exact ⟨11, rfl, fin 11 _ rfl (by decide +kernel), by decide +kernel, by decide +kernel, by decide +kernel, by decide +kernel⟩
  · exact ⟨12, rfl, fin 12 _ rfl (by decide +kernel), by decide +kernel, by decide +kernel, by decide +kernel, by decide +kernel⟩
theorem out_W13 {w : Str} (h : inV (.str w) W13 = false) : partsN w = -1 := by
  have a : W13 = wd0 ++ (wd1 ++ (wd2 ++ wd3)) := rfl
  have e : ∀ xs ys : List V, inV (.str w) (xs ++ ys) = (inV (.str w) xs || inV (.str w) ys) := fun xs ys => List.any_append
  rw [a, e, e, e, Bool.or_eq_false_iff, Bool.or_eq_false_iff, Bool.or_eq_false_iff] at h
  unfold partsN
  rw [h.1, h.2.1, h.2.2.1, h.2.2.2]
  rfl
theorem SgL_app {ps : List (List Nat)} {p : List Nat} : SgL (ps ++ [p]) = SgL ps ++ [V.str (Sg p)] := by
  unfold SgL
  rw [List.map_append]
  rfl
theorem SgL_flat {ps : List (List Nat)} : (SgL ps).all flatV = true := List.all_eq_true.mpr fun x m => by
  obtain ⟨p, -, rfl⟩ := List.mem_map.mp m
  rfl
def optL (ps : List (List Nat)) : List V := ps.map fun p => optV (numP p)
theorem optL_flat {ps : List (List Nat)} : (optL ps).all flatV = true := List.all_eq_true.mpr fun x m => by
  obtain ⟨p, -, rfl⟩ := List.mem_map.mp m
  cases numP p <;> rfl
theorem optL_some : ∀ {ps : List (List Nat)} {ns : List Int}, numsP ps = some ns → optL ps = ns.map V.int ∧ inV .non (optL ps) = false
  | [], ns, h => by
    cases h
    exact ⟨rfl, rfl⟩
  | q :: r, ns, h => by
    unfold numsP at h
    cases eq : numP q with
    | none => rw [eq] at h; cases h
    | some m =>
      rw [eq] at h
      dsimp only at h
      cases er : numsP r with
      | none => rw [er] at h; cases h
      | some ms =>
        rw [er] at h
        cases h
        obtain ⟨h1, h2⟩ := optL_some er
        have e : optL (q :: r) = .int m :: optL r := by
          show optV (numP q) :: optL r = _
          rw [eq]
          rfl
        rw [e]
        refine ⟨by rw [h1]; rfl, ?_⟩
        show (eqV (.int m) .non || inV .non (optL r)) = false
        rw [h2]
        rfl
theorem optL_none {ps : List (List Nat)} (h : numsP ps = none) : inV .non (optL ps) = true := by
  obtain ⟨p, m, e⟩ := numsP_none h
  exact List.any_eq_true.mpr ⟨.non, List.mem_map.mpr ⟨p, m, by rw [e]; rfl⟩, rfl⟩
theorem PlAll_nums : ∀ {ns : List Int}, PlAll (ns.map V.int) (ns.map PyData.int)
  | [] => .nil
  | n :: r => .cons (.int n) PlAll_nums
theorem deed_word {l w : List Nat} {ns : List Int} (h : deedP l = some (w, ns)) : inV (.str (Sg w)) W13 = true := by
  cases e : inV (.str (Sg w)) W13 with
  | true => rfl
  | false =>
    have e2 := out_W13 e
    unfold deedP at h
    cases es : TL.spl [32] 0 [] l with
    | nil => rw [es] at h; cases h
    | cons w' r =>
      rw [es] at h
      dsimp only at h
      split at h
      · rename_i c
        cases en : numsP r with
        | none => rw [en] at h; cases h
        | some ms =>
          rw [en] at h
          cases h
          omega
      · cases h
theorem parts_le {w : Str} : partsN w ≤ 3 := by
  unfold partsN
  split
  · decide
  split
  · decide
  split
  · decide
  split
  · decide
  · decide
theorem deed_len {l w : List Nat} {ns : List Int} (h : deedP l = some (w, ns)) : ns.length ≤ 3 := by
  unfold deedP at h
  cases es : TL.spl [32] 0 [] l with
  | nil => rw [es] at h; cases h
  | cons w' r =>
    rw [es] at h
    dsimp only at h
    split at h
    · rename_i c
      cases en : numsP r with
      | none => rw [en] at h; cases h
      | some ms =>
        rw [en] at h
        cases h
        have := (numsP_some en).1
        have := parts_le (w := Sg w)
        omega
    · cases h
theorem word_at {j : Nat} (h : j < 13) : ∃ wd : List Nat, ∃ n : Nat, W13[j]? = some (.str (Sg wd)) ∧ C13[j]? = some (.int n) ∧ partsN (Sg wd) = n ∧ n ≤ 3 ∧ 32 ∉ wd ∧ wd.length ≤ 5 := by
  have : j = 0 ∨ j = 1 ∨ j = 2 ∨ j = 3 ∨ j = 4 ∨ j = 5 ∨ j = 6 ∨ j = 7 ∨ j = 8 ∨ j = 9 ∨ j = 10 ∨ j = 11 ∨ j = 12 := by omega
  rcases this with rfl | rfl | rfl | rfl | rfl | rfl | rfl | rfl | rfl | rfl | rfl | rfl | rfl
  · exact ⟨TL.tl ("young" : Str), 0, by rw [← Sg_of]; rfl, rfl, by decide +kernel, by decide, by decide +kernel, by decide +kernel⟩
  · exact ⟨TL.tl ("all" : Str), 0, by rw [← Sg_of]; rfl, rfl, by decide +kernel, by decide, by decide +kernel, by decide +kernel⟩
  · exact ⟨TL.tl ("said" : Str), 0, by rw [← Sg_of]; rfl, rfl, by decide +kernel, by decide, by decide +kernel, by decide +kernel⟩
  · exact ⟨TL.tl ("drop" : Str), 1, by rw [← Sg_of]; rfl, rfl, by decide +kernel, by decide, by decide +kernel, by decide +kernel⟩
  · exact ⟨TL.tl ("read" : Str), 1, by rw [← Sg_of]; rfl, rfl, by decide +kernel, by decide, by decide +kernel, by decide +kernel⟩
  · exact ⟨TL.tl ("name" : Str), 1, by rw [← Sg_of]; rfl, rfl, by decide +kernel, by decide, by decide +kernel, by decide +kernel⟩
  · exact ⟨TL.tl ("make" : Str), 2, by rw [← Sg_of]; rfl, rfl, by decide +kernel, by decide, by decide +kernel, by decide +kernel⟩
  · exact ⟨TL.tl ("keep" : Str), 2, by rw [← Sg_of]; rfl, rfl, by decide +kernel, by decide, by decide +kernel, by decide +kernel⟩
  · exact ⟨TL.tl ("share" : Str), 2, by rw [← Sg_of]; rfl, rfl, by decide +kernel, by decide, by decide +kernel, by decide +kernel⟩
  · exact ⟨TL.tl ("find" : Str), 2, by rw [← Sg_of]; rfl, rfl, by decide +kernel, by decide, by decide +kernel, by decide +kernel⟩
  · exact ⟨TL.tl ("last" : Str), 2, by rw [← Sg_of]; rfl, rfl, by decide +kernel, by decide, by decide +kernel, by decide +kernel⟩
  · exact ⟨TL.tl ("take" : Str), 3, by rw [← Sg_of]; rfl, rfl, by decide +kernel, by decide, by decide +kernel, by decide +kernel⟩
  · exact ⟨TL.tl ("put" : Str), 3, by rw [← Sg_of]; rfl, rfl, by decide +kernel, by decide, by decide +kernel, by decide +kernel⟩
theorem joinL_len {sep : List Nat} : ∀ {ps : List (List Nat)}, (TL.joinL sep ps).length ≤ (ps.map List.length).sum + ps.length * sep.length
  | [] => Nat.zero_le _
  | [p] => by
    show p.length ≤ _
    rw [List.map_cons, List.sum_cons]
    omega
  | p :: r :: t => by
    have h := joinL_len (sep := sep) (ps := r :: t)
    show (p ++ (sep ++ TL.joinL sep (r :: t))).length ≤ _
    rw [List.length_append, List.length_append, List.map_cons, List.sum_cons, List.length_cons, Nat.succ_mul]
    omega
theorem r_neTup {K : PySem.W.Frag} {H : Hp} {Q : VK} {a b : Addr} {xs : List V} {ds : List PyData} (h1 : H a = some (.tup xs)) (h2 : H b = some (.tup xs)) (p : PlAll xs ds) (q : Q (.bl false) H) : gNe K (.ref a) (.ref b) H Q :=
  r_neSame (.tup (.inl (.inl h1)) p.dp) (.tup (.inl (.inl h2)) p.dp) ((ShK.tup p.sh).ok (by decide)) q
theorem str_len (a b : Str) : (a ++ b).length = a.length + b.length := by
  rw [TL.len_tl, TL.len_tl, TL.len_tl, TL.tl_append, List.length_append]
theorem cutL_len {l : List Nat} {lo hi : Option Int} : (cutL l lo hi).length ≤ l.length := by
  unfold cutL
  rw [List.length_take, List.length_drop]
  omega
theorem deed_catch {K : PySem.W.Frag} {mg : Str → Option Value} (T : Tx K mg) {v : V} {H : Hp} {Q : VK} {E : XK} {ts : TS} {Wo : WX} {D : Ends} {σ : L2.St} (h : sp_read22 K [v] H Q E)
    (k : ∀ Hx a, Same H Hx → Hx a = none → (∀ H', Same H H' → Q (.bl true) H') → ts { nx := fun σ' H' => D.nx (σ'.set 1 none) H', rt := D.rt, bk := fun σ' H' => D.bk (σ'.set 1 none) H', ct := fun σ' H' => D.ct (σ'.set 1 none) H' } (σ.set 1 (some (.ref a))) (upd Hx a (ExA (Ex K "NoDeed") a))) :
    sp_deed_of K [v] H Q fun c d H2 => wTr K (.ref (He.ga K "KeepError")) 1 ts Wo D c d σ H2 := by
  obtain ⟨v', e, h⟩ := h
  cases e
  refine ⟨v, rfl, ?_⟩
  rcases h with ⟨l, rfl, hl, h⟩ | ⟨t, et, ne, h⟩
  · refine .inl ⟨l, rfl, hl, ?_⟩
    cases e : deedP l with
    | none =>
      rw [e] at h
      exact fun H' s => T.caught (by decide +kernel) (by decide +kernel) (by decide +kernel) fun a na => k H' a s na h
    | some p =>
      rw [e] at h
      exact h
  · exact .inr ⟨t, et, ne, T.caught (by decide +kernel) (by decide +kernel) (by decide +kernel) fun a na => k H a (Same.refl _) na h⟩
section
variable {P : Program} {w : World} {K : PySem.W.Frag} {mg : Str → Option Value} {base : Heap}
theorem f__law_deed (T : Tx K mg) : Fn P w K mg base 2 "_law_deed" ["_law_line"] (sp_deed22 K) := by
  have c__law_words := f__law_words (P := P) (w := w) (base := base) T
  have c__law_number := f__law_number (P := P) (w := w) (base := base) T
  refine T.mkFn 11 25 (d := d__law_deed) (N := ["_law_line", "_law_parts", "_law_sign", "_law_words_here", "_law_counts", "_law_numbers", "_law_part"]) (k := 1) rfl rfl rfl rfl rfl sc__law_deed (fun _ _ _ _ _ _ us hl => match us, hl with | [_], _ => rfl) (fun vs H Q E h => ?len) (fun cdv A outer s H vs Q E hr h => ⟨_,
      (pss_cons (ps_set (i := 1) sc__law_deed.nd rfl (Or.inl rfl) (pe_lst (pa_cons pe_str pa_nil)))
        (pss_cons (ps_for (passes_of rfl) rfl (pi_str (pv 0)) (pg_name (i := 2) sc__law_deed.nd rfl (Or.inl rfl)) (pss_one (ps_if (pt_cmpR (op_eqK (K := K) rfl hr.units) (pv 2) pe_str (nomark _)) (pss_one (ps_expr (pe_bm PySem.F.plainAttrs_list PySem.F.slot_list_append PySem.F.type_list_append mt_append (pv 1) (pa_cons pe_str pa_nil)))) (pss_one (ps_asg (pe_op op_gAdd (pe_ix (ix_seqK (K := K) rfl) (pv 1) (pe_un un_neg pe_int) (fun _ _ => rfl)) (pv 2)) (pg_sub (pv 1) (pe_un un_neg pe_int) set_list))))))
        (pss_cons (ps_asg (pe_fn0 (takes_of rfl rfl rfl rfl) c__law_words (hr.mono (by decide)) (by rfl)) (pg_tup (n := 2) rfl (pgs_cons (pg_name (i := 3) sc__law_deed.nd rfl (Or.inl rfl)) (pgs_cons (pg_name (i := 4) sc__law_deed.nd rfl (Or.inl rfl)) pgs_nil))))
        (pss_cons (ps_if (PW.pt (pw_or (pt_cmpR (op_ninK (K := K) rfl) (pe_ix (ix_seqK (K := K) rfl) (pv 1) pe_int (fun _ _ => rfl)) (pv 3) (by rfl)) (pw_or1 (pt_cmpR (op_neK (K := K) rfl hr.units) (pe_ix (ix_seqK (K := K) rfl) (pv 4) (pe_bm PySem.F.plainAttrs_list PySem.F.slot_list_index PySem.F.type_list_index (mt_indexK (K := K) rfl) (pv 3) (pa_cons (pe_ix (ix_seqK (K := K) rfl) (pv 1) pe_int (fun _ _ => rfl)) pa_nil)) (fun _ _ => rfl)) (pe_op op_sub (pe_callB (call_lenK (K := K) rfl) (by rfl) (T.free 33) PySem.boot_len (pa_cons (pv 1) pa_nil)) pe_int) (nomark _))))) (pss_one (ps_ret pe_non)) pss_nil)
        (pss_cons (ps_setLc (i := 5) (own := [("_law_part", 6)]) (g := gName 6) rfl sc__law_deed.nd rfl rfl (sw_true rfl rfl rfl (by decide +kernel)) (pi_listK (K := K) rfl (pe_slice (sl_listK (K := K) rfl) (pv 1) (po_some pe_int) po_none)) (blkOk_by (own := [("_law_part", 6)]) (N := ["_law_line", "_law_parts", "_law_sign", "_law_words_here", "_law_counts", "_law_numbers", "_law_part"]) (sc := defScope s__law_deed) (by decide +kernel)) (fun _ _ _ _ _ => (pg_name (i := 6) sc__law_deed.nd rfl (Or.inl rfl))) (fun _ _ _ _ _ => pts_nil) (fun _ _ _ _ _ => (pe_fn takes0 c__law_number (hr.mono (by decide)) (by rfl) (pa_cons (pv 6) pa_nil))))
        (pss_cons (ps_if (pt_cmpR (op_inK (K := K) rfl) pe_non (pv 5) (by rfl)) (pss_one (ps_ret pe_non)) pss_nil)
        (pss_one (ps_ret (pe_callTy (call_tupK (K := K) rfl) (by rfl) (T.free 40) (by decide +kernel) (pa_cons (pe_op op_gAdd (pe_lst (pa_cons (pe_ix (ix_seqK (K := K) rfl) (pv 1) pe_int (fun _ _ => rfl)) pa_nil)) (pv 5)) pa_nil)))))))))), ?rd⟩)
  case len => obtain ⟨_, rfl, _⟩ := h; rfl
  case rd =>
    obtain ⟨l, rfl, hl, h⟩ := h
    have sz : 10000000 ≤ sizeLine := by rw [sizeLine_eq]; omega
    walk_at "wt"
    refine ⟨by omega, fun p np => ?_⟩
    rw [← bodyP_lit.2.1, blank_lit]
    have s1 := same_new (o := .lst [.str (Sg [])]) np
    refine forW_str (fun i σ H' => ∃ dn cur o2, σ = [some (.str (Sg l)), some (.ref p), o2, none, none, none, none] ∧ H' p = some (.lst (SgL (dn ++ [cur]))) ∧ TL.spl [32] 0 [] l = dn ++ TL.spl [32] 0 cur (l.drop i) ∧ dn.length ≤ i ∧ cur.length ≤ i ∧ ∀ b o, b ≠ p → H b = some o → H' b = some o)
      ⟨[], [], _, rfl, upd_same, by rw [List.drop_zero]; rfl, Nat.le_refl _, Nat.le_refl _, fun b o n g => s1 _ _ g⟩ ?_ ?_
    · rintro i c σ H' ec ⟨dn, cur, o2, rfl, hp, es, dl, cl, k⟩
      have il := (List.getElem?_eq_some_iff.mp ec).1
      have ed : l.drop i = c :: l.drop (i + 1) := by
        rw [List.drop_eq_getElem_cons il]
        rw [List.getElem?_eq_getElem il] at ec
        rw [Option.some.inj ec]
      rw [ed, spl_cons] at es
      walk_at "wt"
      simp only [Sg_inj]
      split
      · rename_i c1
        rw [if_pos (List.cons.inj c1).1] at es
        refine ⟨.inl ⟨rfl, _, .of hp⟩, p, _, _, rfl, rfl, hp, by rw [SgL_len, List.length_append]; show dn.length + 1 < _; omega, ?_⟩
        rw [← SgL_app]
        exact ⟨dn ++ [cur], [], _, rfl, upd_same, by rw [es, List.append_assoc]; rfl, by rw [List.length_append]; show dn.length + 1 ≤ _; omega, Nat.zero_le _, fun b o n g => (upd_ne n).trans (k b o n g)⟩
      · rename_i c1
        rw [if_neg (fun z => c1 (by rw [z]))] at es
        have hp' := hp
        rw [SgL_app] at hp'
        refine .inl ⟨_, _, _, _, rfl, rfl, .of hp', atI_last _ _, ?_⟩
        walk_at "wt"
        refine ⟨by rw [Sg_len, Sg_len]; show cur.length + 1 ≤ _; omega, ?_⟩
        rw [Sg_add]
        refine ⟨p, _, _, dn.length, rfl, rfl, hp', ?_, ?_⟩
        · unfold ixN
          rw [if_neg (by omega), List.length_append, SgL_len, if_pos (by show -((dn.length + 1 : Nat) : Int) ≤ -1; omega)]
          congr 1
          show ((-1 : Int) + ((dn.length + 1 : Nat) : Int)).toNat = _
          omega
        · have est : (SgL dn ++ [V.str (Sg cur)]).set dn.length (V.str (Sg (cur ++ [c]))) = SgL (dn ++ [cur ++ [c]]) := by
            rw [SgL_app, List.set_append_right _ _ (by rw [SgL_len]; exact Nat.le_refl _), SgL_len, Nat.sub_self]
            rfl
          rw [est]
          exact ⟨dn, cur ++ [c], _, rfl, upd_same, es, by omega, by rw [List.length_append]; show cur.length + 1 ≤ _; omega, fun b o n g => (upd_ne n).trans (k b o n g)⟩
    rintro σ H1 ⟨dn, cur, o2, rfl, hp, es, dl, cl, k⟩
    rw [List.drop_length, TL.spl_nil] at es
    rw [← es] at hp
    have s1 : Same H H1 := fun b o g => k b o (ne_of_none g np) g
    obtain ⟨w0, r0, ec⟩ : ∃ w r, TL.spl [32] 0 [] l = w :: r := by
      cases e : TL.spl [32] 0 [] l with
      | nil => exact absurd e spl_ne
      | cons w r => exact ⟨w, r, rfl⟩
    obtain ⟨le1, le2⟩ := spl_le (s := 32) (l := l) (acc := [])
    unfold deedP at h
    rw [ec] at hp h le1 le2
    dsimp only at h
    rw [List.length_cons] at le1
    walk_at "wt"
    refine ⟨rfl, fun t a b H2 nt s2 ht ha hb => ?_⟩
    refine ⟨t, _, rfl, .inl (.inl ht), rfl, ?_⟩
    walk_at "wt"
    have hp2 := s2 _ _ hp
    refine r_ixL (i := 0) hp2 (v := .str (Sg w0)) rfl ?_
    refine r_ninL (.of ha) rfl rfl ?_
    cases ein : inV (.str (Sg w0)) W13 with
    | false =>
      walk_at "wt"
      rw [if_neg (by rw [out_W13 ein]; omega)] at h
      exact h _ (s1.trans s2)
    | true =>
      walk_at "wt"
      obtain ⟨j, j1, j2, j3, -⟩ := in_W13 ein
      refine ⟨.inl ⟨rfl, _, .of ha⟩, r_ixL (i := 0) hp2 (v := .str (Sg w0)) rfl ?_⟩
      refine ⟨a, _, _, j, _, rfl, rfl, .of ha, rfl, rfl, j1, by show (Sg w0 == Sg w0) = true; exact beq_self_eq_true _, j2, ?_⟩
      refine r_ixL hb j3 ?_
      refine r_lenL hp2 ?_
      rw [SgL_len, List.length_cons]
      walk_at "wt"
      split
      · rw [if_neg (by omega)] at h
        exact h _ (s1.trans s2)
      rw [if_pos (by omega)] at h
      refine ⟨p, _, rfl, .of hp2, fun p4 n4 => ?_⟩
      rw [cutV_one, show (SgL (w0 :: r0)).drop 1 = SgL r0 from rfl]
      have s4 := same_new (o := .lst (SgL r0)) n4
      have h4 : upd H2 p4 (.lst (SgL r0)) p4 = some (.lst (SgL r0)) := upd_same
      have hp4 := s4 _ _ hp2
      generalize upd H2 p4 (.lst (SgL r0)) = H4 at s4 h4 hp4 ⊢
      have s04 := (s1.trans s2).trans s4
      walk_at "wt"
      refine ⟨⟨_, .of h4⟩, fun D nD => ?_⟩
      refine lc_mapL (xs := SgL r0) (ys := optL r0) (fun _ => rfl) (fun acc => .of ((upd_ne (ne_of_none h4 nD)).trans h4)) (by rw [SgL_len]; omega) (by rw [SgL_len]; exact List.length_map ..) (fun i x y hx hy acc Q2 q2 => ?_) ?_
      · obtain ⟨pp, ep, rfl⟩ := SgL_mem hx
        have lp := le2 pp (List.mem_cons_of_mem _ (List.mem_of_getElem? ep))
        rw [List.length_nil] at lp
        walk_at "wt"
        refine ⟨pp, rfl, by omega, ?_⟩
        unfold optL at hy
        rw [List.getElem?_map, ep] at hy
        obtain rfl : optV (numP pp) = y := Option.some.inj hy
        exact q2
      have sD := same_new (o := .lst (optL r0)) nD
      have hD : upd H4 D (.lst (optL r0)) D = some (.lst (optL r0)) := upd_same
      have hpD := sD _ _ hp4
      generalize upd H4 D (.lst (optL r0)) = H5 at sD hD hpD ⊢
      have s05 := s04.trans sD
      walk_at "wt"
      refine r_inL (.of hD) rfl optL_flat ?_
      cases en : numsP r0 with
      | none =>
        rw [optL_none en]
        rw [en] at h
        walk_at "wt"
        exact h _ s05
      | some ms =>
        obtain ⟨o1, o2⟩ := optL_some en
        rw [o2]
        rw [o1] at hD
        rw [en] at h
        walk_at "wt"
        have ml := (numsP_some en).1
        refine r_ixL (i := 0) hpD (v := .str (Sg w0)) rfl ⟨by omega, fun p6 n6 => ?_⟩
        have s6 := same_new (o := .lst [.str (Sg w0)]) n6
        refine ⟨_, _, upd_same, s6 _ _ hD, by rw [List.length_map]; show 1 + ms.length ≤ _; omega, fun p7 n7 => ?_⟩
        have s7 := same_new (o := .lst ([.str (Sg w0)] ++ ms.map V.int)) n7
        refine r_tupL (.of upd_same) fun t8 n8 => ?_
        have s8 := same_new (o := .tup ([.str (Sg w0)] ++ ms.map V.int)) n8
        exact h t8 _ (none_of ((s05.trans s6).trans s7) n8) (((s05.trans s6).trans s7).trans s8) upd_same
theorem f__law_read (T : Tx K mg) : Fn P w K mg base 3 "_law_read" ["_law_line"] (sp_read22 K) := by
  have c_deed_of := f_deed_of (P := P) (w := w) (base := base) T
  refine T.mkFn 12 26 (d := d__law_read) (N := ["_law_line", "e"]) (k := 2) rfl rfl rfl rfl rfl sc__law_read (fun _ _ _ _ _ _ us hl => match us, hl with | [_], _ => rfl) (fun vs H Q E h => ?len) (fun cdv A outer s H vs Q E hr h => ⟨_,
      (pss_one (ps_tryT (i := 1) rfl rfl rfl sc__law_read.nd rfl rfl ⟨by rfl, by decide, Or.inl (T.glo 0)⟩ (takes_of rfl rfl rfl rfl) (fun W pn xe tk po => (pss_one (ps_ret (pe_fn tk c_deed_of (hr.mono (by decide)) (by rfl) (pa_cons (pv 0) pa_nil))))) (su_cons (su_if (fun a pn => (pt_val (pe_isTK (K := K) rfl (by rfl) (T.free 32) (pv 1) (pa_cons (pe_clsK (K := K) rfl (T.glo 3) (by rfl)) (pa_cons (pe_clsK (K := K) rfl (T.glo 1) (by rfl)) (pa_cons (pe_clsK (K := K) rfl (T.glo 2) (by rfl)) (pa_cons (pe_clsK (K := K) rfl (T.glo 7) (by rfl)) (pa_cons (pe_clsK (K := K) rfl (T.glo 8) (by rfl)) (pa_cons (pe_clsK (K := K) rfl (T.glo 12) (by rfl)) (pa_cons (pe_clsK (K := K) rfl (T.glo 10) (by rfl)) (pa_cons (pe_clsK (K := K) rfl (T.glo 4) (by rfl)) pa_nil))))))))))) (su_one (fun a pn => (ps_ret pe_bl))) su_nil)
        (su_cons (su_if (fun a pn => (pt_val (pe_isTK (K := K) rfl (by rfl) (T.free 32) (pv 1) (pa_cons (pe_clsK (K := K) rfl (T.glo 13) (by rfl)) (pa_cons (pe_clsK (K := K) rfl (T.glo 5) (by rfl)) (pa_cons (pe_clsK (K := K) rfl (T.glo 6) (by rfl)) (pa_cons (pe_clsK (K := K) rfl (T.glo 9) (by rfl)) pa_nil))))))) (su_one (fun a pn => (ps_ret pe_bl))) su_nil)
        (su_one (fun a pn => (ps_ret (pe_and (pe_callB (call_isEK (K := K) rfl) (by rfl) (T.free 32) (by decide +kernel) (pa_cons (pv 1) (pa_cons (pe_clsK (K := K) rfl (T.glo 11) (by rfl)) pa_nil))) (pe_one (pe_callB (call_isEK (K := K) rfl) (by rfl) (T.free 32) (by decide +kernel) (pa_cons (pv 1) (pa_cons (pe_ty (T := "ValueError") (T.free 41) (by decide +kernel) (by rfl)) pa_nil)))))))))))), ?rd⟩)
  case len => obtain ⟨_, rfl, _⟩ := h; rfl
  case rd =>
    have h0 := h
    obtain ⟨v, rfl, -⟩ := h
    walk_at "wt"
    refine deed_catch T h0 fun Hx a s na q => ?_
    have ha : upd Hx a (ExA (Ex K "NoDeed") a) a = some (ExA (Ex K "NoDeed") a) := upd_same
    have sa := s.trans (same_new (o := ExA (Ex K "NoDeed") a) na)
    generalize upd Hx a (ExA (Ex K "NoDeed") a) = H1 at ha sa ⊢
    walk_at "wt"
    (apply T.isA (b := false) ha; (· repeat first | exact .nil | apply NamesK.cons); (· decide +kernel); (· decide +kernel); (· decide +kernel); (· decide +kernel))
    walk_at "wt"
    (apply T.isA (b := false) ha; (· repeat first | exact .nil | apply NamesK.cons); (· decide +kernel); (· decide +kernel); (· decide +kernel); (· decide +kernel))
    walk_at "wt"
    refine T.isY ha (by decide +kernel) (by decide +kernel) (by decide +kernel) ?_
    walk_at "wt"
    refine T.isV ha (by decide +kernel) ?_
    exact q _ sa
theorem f__law_right (T : Tx K mg) : Fn P w K mg base 4 "_law_right" ["_law_line", "_law_due"] (sp_right22 K) := by
  have c__law_read := f__law_read (P := P) (w := w) (base := base) T
  have c__law_whole := f__law_whole (P := P) (w := w) (base := base) T
  refine T.mkFn 13 27 (d := d__law_right) (N := ["_law_line", "_law_due", "_law_found", "_law_number_here"]) (k := 3) rfl rfl rfl rfl rfl sc__law_right (fun _ _ _ _ _ _ us hl => match us, hl with | [_, _], _ => rfl) (fun vs H Q E h => ?len) (fun cdv A outer s H vs Q E hr h => ⟨_,
      (pss_cons (ps_set (i := 2) sc__law_right.nd rfl (Or.inl rfl) (pe_fn (takes_of rfl rfl rfl rfl) c__law_read (hr.mono (by decide)) (by rfl) (pa_cons (pv 0) pa_nil)))
        (pss_cons (ps_if (pt_cmpR op_isN (pv 1) pe_non (nomark _)) (pss_one (ps_ret (pe_cmpR op_gIsB (pv 2) pe_bl (nomark _)))) pss_nil)
        (pss_cons (ps_if (PW.pt (pw_or (pt_not (pt_val (pe_callB call_gIsi (by rfl) (T.free 32) (by decide +kernel) (pa_cons (pv 2) (pa_cons (pe_ty (T := "tuple") (T.free 40) (by decide +kernel) (by rfl)) pa_nil))))) (pw_or (pt_cmpR (op_neK (K := K) rfl hr.units) (pv 2) (pv 1) (nomark _)) (pw_or1 (pt_not (pt_val (pe_callB call_gIsi (by rfl) (T.free 32) (by decide +kernel) (pa_cons (pe_ix (ix_seqK (K := K) rfl) (pv 2) pe_int (fun _ _ => rfl)) (pa_cons (pe_ty (T := "str") (T.free 39) (by decide +kernel) (by rfl)) pa_nil))))))))) (pss_one (ps_ret pe_bl)) pss_nil)
        (pss_one (ps_ret (pe_callB (call_allK (K := K) rfl rfl) (by rfl) (T.free 36) (by decide +kernel) (pa_cons (pe_lc (own := [("_law_number_here", 3)]) (g := gName 3) rfl sc__law_right.nd (pi_tup (pe_slice sl_tup (pv 2) (po_some pe_int) po_none)) (blkOk_by (own := [("_law_number_here", 3)]) (N := ["_law_line", "_law_due", "_law_found", "_law_number_here"]) (sc := defScope s__law_right) (by decide +kernel)) (fun _ _ _ _ _ => (pg_name (i := 3) sc__law_right.nd rfl (Or.inl rfl))) (fun _ _ _ _ _ => pts_nil) (fun _ _ _ _ _ => (pe_fnH c__law_whole (roomN_of (hr.mono (by decide))) (by rfl) (pa_cons (pv 3) pa_nil)))) pa_nil))))))), ?rd⟩)
  case len => obtain ⟨_, _, rfl, _⟩ := h; rfl
  case rd =>
    obtain ⟨v, d, rfl, h, q⟩ := h
    have sz : 10000000 ≤ sizeLine := by rw [sizeLine_eq]; omega
    walk_at "wt"
    rcases h with ⟨rfl, h⟩ | ⟨l, t, w0, ms, rfl, hl, ed, rfl, ht⟩
    · refine ⟨v, rfl, ?_⟩
      simp only [if_true, decide_true]
      rcases h with ⟨l, rfl, hl, e⟩ | ⟨t, et, ne⟩
      · refine .inl ⟨l, rfl, hl, ?_⟩
        rw [e]
        exact q
      · exact .inr ⟨t, et, ne, q⟩
    · refine ⟨_, rfl, .inl ⟨l, rfl, hl, ?_⟩⟩
      rw [ed]
      intro t1 H1 n1 s1 h1
      rw [if_neg (by intro z; cases z)]
      refine r_isiT h1 ?_
      walk_at "wt"
      obtain ⟨j, -, -, -, ok, -⟩ := in_W13 (deed_word ed)
      refine r_neTup h1 (s1 _ _ ht) (.cons (.str _ ok) PlAll_nums) ?_
      walk_at "wt"
      refine r_ixT (i := 0) h1 rfl ?_
      walk_at "wt"
      refine ⟨t1, _, rfl, .inl (.inl h1), fun z => ?_, fun p2 n2 => ?_⟩
      · have z1 := z.1
        rw [show HT.sIx _ 0 (some 1) = min 1 _ from HT.sIx_nat _ _ 1, List.length_cons] at z1
        omega
      rw [cutV_one, show (V.str (Sg w0) :: ms.map V.int).drop 1 = ms.map V.int from rfl]
      have s2 := same_new (o := .tup (ms.map V.int)) n2
      have h2 : upd H1 p2 (.tup (ms.map V.int)) p2 = some (.tup (ms.map V.int)) := upd_same
      generalize upd H1 p2 (.tup (ms.map V.int)) = H2 at s2 h2 ⊢
      walk_at "wt"
      refine ⟨⟨_, .inl (.inl h2)⟩, fun D nD => ?_⟩
      have mz : ms.length ≤ sizeLine := Nat.le_trans (deed_len ed) (by omega)
      refine lc_tup (xs := ms.map V.int) (fun i Hx => Hx = upd H2 D (.lst (List.replicate i (.bl true)))) rfl (fun i Hx _ e => ?_) ?_ ?_
      · subst e
        exact .inl (.inl ((upd_ne (ne_of_none h2 nD)).trans h2))
      · rintro i x Hx hx rfl
        obtain ⟨n, rfl, mn⟩ := ints_mem hx
        have hi := (List.getElem?_eq_some_iff.mp hx).1
        rw [List.length_map] at hi
        refine ⟨rfl, tYes_on ?_⟩
        walk_at "wt"
        refine ⟨_, upd_same, by rw [List.length_replicate]; omega, ?_⟩
        rw [upd_upd, ← List.replicate_succ']
        rfl
      · rintro Hx rfl
        exact r_allT upd_same (q _ ((s1.trans s2).trans (same_new nD)))
theorem f__law_changed (T : Tx K mg) : Fn P w K mg base 2 "_law_changed" ["_law_line", "_law_cell", "_law_more"] (sp_changed22 K) := by
  have c__law_sign_by := f__law_sign_by (P := P) (w := w) (base := base) T
  refine T.mkFn 14 28 (d := d__law_changed) (N := ["_law_line", "_law_cell", "_law_more", "_law_at", "_law_sign"]) (k := 1) rfl rfl rfl rfl rfl sc__law_changed (fun _ _ _ _ _ _ us hl => match us, hl with | [_, _, _], _ => rfl) (fun vs H Q E h => ?len) (fun cdv A outer s H vs Q E hr h => ⟨_,
      (pss_cons (ps_set (i := 3) sc__law_changed.nd rfl (Or.inl rfl) (pe_op op_mod (pe_op op_fdiv (pv 1) pe_int) (pe_op op_gAdd (pe_callB (call_lenK (K := K) rfl) (by rfl) (T.free 33) PySem.boot_len (pa_cons (pv 0) pa_nil)) pe_int)))
        (pss_cons (ps_set (i := 4) sc__law_changed.nd rfl (Or.inl rfl) (pe_fn (takes_of rfl rfl rfl rfl) c__law_sign_by (hr.mono (by decide)) (by rfl) (pa_cons (pv 2) pa_nil)))
        (pss_cut (ps_if (pt_cmpR (op_eqK (K := K) rfl hr.units) (pe_op op_mod (pe_op op_fdiv (pv 2) pe_int) pe_int) pe_int (nomark _)) (pss_one (ps_set (i := 4) sc__law_changed.nd rfl (Or.inl rfl) (pe_ix (ix_seqK (K := K) rfl) pe_str (pe_op op_mod (pe_op op_fdiv (pv 2) pe_int) pe_int) (fun _ _ => rfl)))) pss_nil)
        (pss_cons (ps_if (pt_cmpR (op_eqK (K := K) rfl hr.units) (pe_op op_mod (pv 1) pe_int) pe_int (nomark _)) (pss_one (ps_ret (pe_op op_gAdd (pe_op op_gAdd (pe_slice sl_str (pv 0) po_none (po_some (pv 3))) (pv 4)) (pe_slice sl_str (pv 0) (po_some (pv 3)) po_none)))) pss_nil)
        (pss_cons (ps_if (pt_cmpR (op_eqK (K := K) rfl hr.units) (pe_op op_mod (pv 1) pe_int) pe_int (nomark _)) (pss_one (ps_ret (pe_op op_gAdd (pe_slice sl_str (pv 0) po_none (po_some (pv 3))) (pe_slice sl_str (pv 0) (po_some (pe_op op_gAdd (pv 3) pe_int)) po_none)))) pss_nil)
        (pss_cons (ps_if (pt_cmpR (op_eqK (K := K) rfl hr.units) (pe_op op_mod (pv 1) pe_int) pe_int (nomark _)) (pss_one (ps_ret (pe_op op_gAdd (pe_op op_gAdd (pe_slice sl_str (pv 0) po_none (po_some (pv 3))) (pv 4)) (pe_slice sl_str (pv 0) (po_some (pe_op op_gAdd (pv 3) pe_int)) po_none)))) pss_nil)
        (pss_cons (ps_if (pt_cmpR (op_eqK (K := K) rfl hr.units) (pe_op op_mod (pv 2) pe_int) pe_int (nomark _)) (pss_one (ps_ret (pe_menu (pa_cons pe_str (pa_cons pe_str (pa_cons pe_str (pa_cons pe_str (pa_cons pe_str (pa_cons pe_str pa_nil)))))) (pe_op op_mod (pe_op op_fdiv (pv 2) pe_int) pe_int) (fun _ _ => rfl)))) pss_nil)
        (pss_one (ps_ret (pe_op op_gAdd (pe_op op_gAdd (pe_op op_gAdd pe_str (pe_op op_gRepS pe_str (pe_op op_mod (pv 2) pe_int))) (pe_op op_gRepS pe_str pe_int)) (pe_op op_gRepS pe_str (pe_op op_mod (pe_op op_fdiv (pv 2) pe_int) pe_int)))))))))))), ?rd⟩)
  case len => obtain ⟨_, _, _, rfl, _⟩ := h; rfl
  case rd =>
    obtain ⟨l, c, m, rfl, hl, q⟩ := h
    have sz : 10000000 ≤ sizeLine := by rw [sizeLine_eq]; omega
    walk_at "wt"
    refine r_lenStr ⟨by omega, ?_⟩
    walk_at "wt"
    refine ⟨by omega, m, rfl, fun c0 => ?_⟩
    have p1 := Int.emod_nonneg (c / 4) (show (l.length : Int) + 1 ≠ 0 by omega)
    have p2 := Int.emod_lt_of_pos (c / 4) (show (0 : Int) < (l.length : Int) + 1 by omega)
    obtain ⟨k, ek⟩ := Int.eq_ofNat_of_zero_le p1
    rw [ek] at p2 ⊢
    have hk : k ≤ l.length := by omega
    refine ⟨fun σ' H' => H' = H ∧ ∃ sg, σ' = [some (.str (Sg l)), some (.int c), some (.int m), some (.int (k : Int)), some (.str (Sg [sg]))], ?_, ?_⟩
    · split
      · have e3 : (" -0" : Str) = Sg [32, 45, 48] := by decide +kernel
        rw [e3]
        obtain ⟨i, ei⟩ := Int.eq_ofNat_of_zero_le (Int.emod_nonneg (m / 288) (show (3 : Int) ≠ 0 by decide))
        have hi : i < 3 := by omega
        rw [ei]
        exact r_ixStr (by show 3 ≤ _; omega) (List.getElem?_eq_getElem (by show i < 3; exact hi)) ⟨rfl, _, rfl⟩
      · exact ⟨rfl, _, rfl⟩
    rintro σ' H' ⟨rfl, sg, rfl⟩
    walk_at "wt"
    have L2 : ∀ z : Str, z.length ≤ 2000 → Q (.str z) H' := fun z h => by
      rw [Sg_of z]
      exact q _ (by rw [← TL.len_tl]; exact h)
    have c1 := cutL_len (l := l) (lo := none) (hi := some (k : Int))
    have c2 := cutL_len (l := l) (lo := some (k : Int)) (hi := none)
    have c3 := cutL_len (l := l) (lo := some ((k : Int) + 1)) (hi := none)
    split
    · refine r_slStr (by omega) ?_
      walk_at "wt"
      refine ⟨by rw [Sg_len, Sg_len]; show _ + 1 ≤ _; omega, r_slStr (by omega) ⟨?_, ?_⟩⟩
      · rw [str_len, Sg_len, Sg_len, Sg_len]
        show _ + 1 + _ ≤ _
        omega
      · rw [Sg_add, Sg_add]
        exact q _ (by rw [List.length_append, List.length_append]; show _ + 1 + _ ≤ _; omega)
    split
    · refine r_slStr (by omega) (r_slStr (by omega) ⟨?_, ?_⟩)
      · rw [Sg_len, Sg_len]
        omega
      · rw [Sg_add]
        exact q _ (by rw [List.length_append]; omega)
    split
    · refine r_slStr (by omega) ?_
      walk_at "wt"
      refine ⟨by rw [Sg_len, Sg_len]; show _ + 1 ≤ _; omega, r_slStr (by omega) ⟨?_, ?_⟩⟩
      · rw [str_len, Sg_len, Sg_len, Sg_len]
        show _ + 1 + _ ≤ _
        omega
      · rw [Sg_add, Sg_add]
        exact q _ (by rw [List.length_append, List.length_append]; show _ + 1 + _ ≤ _; omega)
    split
    · obtain ⟨i, ei⟩ := Int.eq_ofNat_of_zero_le (Int.emod_nonneg (m / 3) (show (6 : Int) ≠ 0 by decide))
      have hi : i = 0 ∨ i = 1 ∨ i = 2 ∨ i = 3 ∨ i = 4 ∨ i = 5 := by omega
      rw [ei]
      refine ⟨by omega, ?_⟩
      rcases hi with rfl | rfl | rfl | rfl | rfl | rfl <;> exact ⟨_, rfl, L2 _ (by decide +kernel)⟩
    · have d1 : ("drop " : Str).length = 5 := by decide +kernel
      have d2 : (TL.tl ("-" : Str)).length = 1 := by decide +kernel
      have d3 : (TL.tl ("1234567890" : Str)).length = 10 := by decide +kernel
      have d4 : (TL.tl ("5" : Str)).length = 1 := by decide +kernel
      refine ⟨by omega, by omega, by decide +kernel, ?_, by decide +kernel, ?_, by omega, by omega, by decide +kernel, ?_, L2 _ ?_⟩
      all_goals (simp only [str_len, Sg_len, repL_len, d1, d2, d3, d4]; omega)
theorem f_law (T : Tx K mg) : Fn P w K mg base 5 "law" ["_law_script"] (sp_law K) := by
  have c__law_words := f__law_words (P := P) (w := w) (base := base) T
  have c__law_cell_at := f__law_cell_at (P := P) (w := w) (base := base) T
  have c__law_number_by := f__law_number_by (P := P) (w := w) (base := base) T
  have c__law_figures := f__law_figures (P := P) (w := w) (base := base) T
  have c_line_of := f_line_of (P := P) (w := w) (base := base) T
  have c__law_right := f__law_right (P := P) (w := w) (base := base) T
  have c__law_changed := f__law_changed (P := P) (w := w) (base := base) T
  have c__law_deed := f__law_deed (P := P) (w := w) (base := base) T
  refine T.mkFn 15 29 (d := d_law) (N := ["_law_script", "_law_words_here", "_law_counts", "_law_which", "_law_numbers", "_law_k", "_law_deed_here", "_law_line", "_law_number_here", "_law_found", "_law_odd", "_law_changed_here"]) (k := 4) rfl rfl rfl rfl rfl sc_law (fun _ _ _ _ _ _ us hl => match us, hl with | [_], _ => rfl) (fun vs H Q E h => ?len) (fun cdv A outer s H vs Q E hr h => ⟨_,
      (pss_cons (ps_asg (pe_fn0 (takes_of rfl rfl rfl rfl) c__law_words (hr.mono (by decide)) (by rfl)) (pg_tup (n := 2) rfl (pgs_cons (pg_name (i := 1) sc_law.nd rfl (Or.inl rfl)) (pgs_cons (pg_name (i := 2) sc_law.nd rfl (Or.inl rfl)) pgs_nil))))
        (pss_cons (ps_set (i := 3) sc_law.nd rfl (Or.inl rfl) (pe_op op_mod (pe_fn (takes_of rfl rfl rfl rfl) c__law_cell_at (hr.mono (by decide)) (by rfl) (pa_cons (pv 0) (pa_cons pe_int pa_nil))) pe_int))
        (pss_cons (ps_setLc (i := 4) (own := [("_law_k", 5)]) (g := gName 5) rfl sc_law.nd rfl rfl (sw_true rfl rfl rfl (by decide +kernel)) (pi_range1 rfl (T.free 35) (pa_cons (pe_ix (ix_seqK (K := K) rfl) (pv 2) (pv 3) (fun _ _ => rfl)) pa_nil)) (blkOk_by (own := [("_law_k", 5)]) (N := ["_law_script", "_law_words_here", "_law_counts", "_law_which", "_law_numbers", "_law_k", "_law_deed_here", "_law_line", "_law_number_here", "_law_found", "_law_odd", "_law_changed_here"]) (sc := defScope s_law) (by decide +kernel)) (fun _ _ _ _ _ => (pg_name (i := 5) sc_law.nd rfl (Or.inl rfl))) (fun _ _ _ _ _ => pts_nil) (fun _ _ _ _ _ => (pe_fn takes0 c__law_number_by (hr.mono (by decide)) (by rfl) (pa_cons (pe_fn takes0 c__law_cell_at (hr.mono (by decide)) (by rfl) (pa_cons (pv 0) (pa_cons (pe_op op_gAdd pe_int (pv 5)) pa_nil))) pa_nil))))
        (pss_cons (ps_set (i := 6) sc_law.nd rfl (Or.inl rfl) (pe_callTy (call_tupK (K := K) rfl) (by rfl) (T.free 40) (by decide +kernel) (pa_cons (pe_op op_gAdd (pe_lst (pa_cons (pe_ix (ix_seqK (K := K) rfl) (pv 1) (pv 3) (fun _ _ => rfl)) pa_nil)) (pv 4)) pa_nil)))
        (pss_cons (ps_set (i := 7) sc_law.nd rfl (Or.inl rfl) (pe_bm PySem.F.plainAttrs_str PySem.F.slot_str_join PySem.F.type_str_join (mt_joinK (K := K) rfl) pe_str (pa_cons (pe_op op_gAdd (pe_lst (pa_cons (pe_ix (ix_seqK (K := K) rfl) (pv 1) (pv 3) (fun _ _ => rfl)) pa_nil)) (pe_lc (own := [("_law_number_here", 8)]) (g := gName 8) rfl sc_law.nd (pi_listK (K := K) rfl (pv 4)) (blkOk_by (own := [("_law_number_here", 8)]) (N := ["_law_script", "_law_words_here", "_law_counts", "_law_which", "_law_numbers", "_law_k", "_law_deed_here", "_law_line", "_law_number_here", "_law_found", "_law_odd", "_law_changed_here"]) (sc := defScope s_law) (by decide +kernel)) (fun _ _ _ _ _ => (pg_name (i := 8) sc_law.nd rfl (Or.inl rfl))) (fun _ _ _ _ _ => pts_nil) (fun _ _ _ _ _ => (pe_fn takes0 c__law_figures (hr.mono (by decide)) (by rfl) (pa_cons (pv 8) pa_nil))))) pa_nil)))
        (pss_cons (ps_set (i := 9) sc_law.nd rfl (Or.inl rfl) (pe_fn (takes_of rfl rfl rfl rfl) c_line_of (hr.mono (by decide)) (by rfl) (pa_cons (pv 6) pa_nil)))
        (pss_cons (ps_if (PW.pt (pw_or (pt_not (pt_val (pe_callB call_gIsi (by rfl) (T.free 32) (by decide +kernel) (pa_cons (pv 9) (pa_cons (pe_ty (T := "str") (T.free 39) (by decide +kernel) (by rfl)) pa_nil))))) (pw_or (pt_cmpR (op_neK (K := K) rfl hr.units) (pv 9) (pv 7) (nomark _)) (pw_or1 (pt_not (pt_val (pe_fn (takes_of rfl rfl rfl rfl) c__law_right (hr.mono (by decide)) (by rfl) (pa_cons (pv 7) (pa_cons (pv 6) pa_nil))))))))) (pss_one (ps_ret pe_bl)) pss_nil)
        (pss_cons (ps_set (i := 10) sc_law.nd rfl (Or.inl rfl) (pe_menu (pa_cons pe_non (pa_cons pe_int (pa_cons (pe_lst (pa_cons pe_str pa_nil)) (pa_cons (pe_tup (pa_cons pe_str pa_nil)) (pa_cons pe_bl (pa_cons (pv 6) pa_nil)))))) (pe_op op_mod (pe_fn (takes_of rfl rfl rfl rfl) c__law_cell_at (hr.mono (by decide)) (by rfl) (pa_cons (pv 0) (pa_cons pe_int pa_nil))) pe_int) (fun _ _ => rfl)))
        (pss_cons (ps_if (pt_not (pt_val (pe_fn (takes_of rfl rfl rfl rfl) c__law_right (hr.mono (by decide)) (by rfl) (pa_cons (pv 10) (pa_cons pe_non pa_nil))))) (pss_one (ps_ret pe_bl)) pss_nil)
        (pss_cons (ps_set (i := 11) sc_law.nd rfl (Or.inl rfl) (pe_fn (takes_of rfl rfl rfl rfl) c__law_changed (hr.mono (by decide)) (by rfl) (pa_cons (pv 7) (pa_cons (pe_fn (takes_of rfl rfl rfl rfl) c__law_cell_at (hr.mono (by decide)) (by rfl) (pa_cons (pv 0) (pa_cons pe_int pa_nil))) (pa_cons (pe_fn (takes_of rfl rfl rfl rfl) c__law_cell_at (hr.mono (by decide)) (by rfl) (pa_cons (pv 0) (pa_cons pe_int pa_nil))) pa_nil)))))
        (pss_one (ps_ret (pe_fn (takes_of rfl rfl rfl rfl) c__law_right (hr.mono (by decide)) (by rfl) (pa_cons (pv 11) (pa_cons (pe_fn (takes_of rfl rfl rfl rfl) c__law_deed (hr.mono (by decide)) (by rfl) (pa_cons (pv 11) pa_nil)) pa_nil))))))))))))))), ?rd⟩)
  case len => obtain ⟨_, _, rfl, _⟩ := h; rfl
  case rd =>
    obtain ⟨a, ns, rfl, hS, hl, q⟩ := h
    have sz : 10000000 ≤ sizeLine := by rw [sizeLine_eq]; omega
    walk_at "wt"
    refine ⟨rfl, fun t b d H1 nt s1 ht hb hd => ⟨t, _, rfl, .inl (.inl ht), rfl, ?_⟩⟩
    walk_at "wt"
    have S1 := s1.seq hS
    refine ⟨a, 0, ns, rfl, S1, by omega, ?_⟩
    walk_at "wt"
    obtain ⟨j, ej⟩ := Int.eq_ofNat_of_zero_le (Int.emod_nonneg (cell ns 0) (show (13 : Int) ≠ 0 by decide))
    have hj : j < 13 := by omega
    rw [ej]
    obtain ⟨wd, n, e1, e2, e3, n3, fr, l5⟩ := word_at hj
    refine r_ixL hd e2 ?_
    walk_at "wt"
    refine ⟨by omega, by omega, fun D nD => ?_⟩
    rw [Int.toNat_natCast]
    refine lc_range (fun i Hx => ∃ ms : List Int, ms.length = i ∧ (∀ m ∈ ms, m.natAbs < 10 ^ 60) ∧ Hx = upd H1 D (.lst (ms.map V.int))) ⟨[], rfl, (fun m h => (List.not_mem_nil h).elim), rfl⟩ ?_ ?_
    · rintro i Hx hi ⟨ms, lm, am, rfl⟩
      refine ⟨rfl, tYes_on ?_⟩
      walk_at "wt"
      refine ⟨a, _, ns, rfl, (same_new nD).seq S1, by omega, ?_⟩
      refine ⟨_, rfl, fun m hm => ?_⟩
      refine ⟨_, upd_same, by rw [List.length_map]; omega, ms ++ [m], by rw [List.length_append, lm]; rfl, fun x hx => ?_, by rw [upd_upd, List.map_append]; rfl⟩
      rcases List.mem_append.mp hx with hx | hx
      · exact am x hx
      · rw [List.mem_singleton.mp hx]
        exact hm
    rintro Hx ⟨ms, lm, am, rfl⟩
    have sD := same_new (o := .lst (ms.map V.int)) nD
    have hD : upd H1 D (.lst (ms.map V.int)) D = some (.lst (ms.map V.int)) := upd_same
    have hb2 := sD _ _ hb
    generalize upd H1 D (.lst (ms.map V.int)) = H2 at sD hD hb2 ⊢
    walk_at "wt"
    refine r_ixL hb2 e1 ⟨by omega, fun p3 n3' => ?_⟩
    have s3 := same_new (o := .lst [.str (Sg wd)]) n3'
    refine ⟨_, _, upd_same, s3 _ _ hD, by rw [List.length_map]; show 1 + ms.length ≤ _; omega, fun p4 n4 => ?_⟩
    have s4 := same_new (o := .lst ([.str (Sg wd)] ++ ms.map V.int)) n4
    refine r_tupL (.of upd_same) fun t5 n5 => ?_
    have s5 := same_new (o := .tup ([.str (Sg wd)] ++ ms.map V.int)) n5
    have h5 : upd (upd (upd H2 p3 (.lst [.str (Sg wd)])) p4 (.lst ([.str (Sg wd)] ++ ms.map V.int))) t5 (.tup ([.str (Sg wd)] ++ ms.map V.int)) t5 = some (.tup (.str (Sg wd) :: ms.map V.int)) := upd_same
    have s25 := (s3.trans s4).trans s5
    have hD5 := s25 _ _ hD
    have hb5 := s25 _ _ hb2
    generalize upd (upd (upd H2 p3 (.lst [.str (Sg wd)])) p4 (.lst ([.str (Sg wd)] ++ ms.map V.int))) t5 (.tup ([.str (Sg wd)] ++ ms.map V.int)) = H5 at h5 s25 hD5 hb5 ⊢
    have s05 := (s1.trans sD).trans s25
    walk_at "wt"
    refine ⟨rfl, r_ixL hb5 e1 ⟨by omega, fun p6 n6 => ?_⟩⟩
    have s6 := same_new (o := .lst [.str (Sg wd)]) n6
    have h6 : upd H5 p6 (.lst [.str (Sg wd)]) p6 = some (.lst [.str (Sg wd)]) := upd_same
    have hD6 := s6 _ _ hD5
    have h56 := s6 _ _ h5
    have s06 := s05.trans s6
    generalize upd H5 p6 (.lst [.str (Sg wd)]) = H6 at h6 s6 hD6 h56 s06 ⊢
    refine ⟨⟨_, .of hD6⟩, fun D2 nD2 => ?_⟩
    refine lc_mapL (xs := ms.map V.int) (ys := SgL (ms.map figL)) (fun _ => rfl) (fun acc => .of ((upd_ne (ne_of_none hD6 nD2)).trans hD6)) (by rw [List.length_map]; omega) (by rw [SgL_len, List.length_map, List.length_map]) (fun i x y hx hy acc Q2 q2 => ?_) ?_
    · obtain ⟨m, rfl, mm⟩ := ints_mem hx
      have ey : y = .str (Sg (figL m)) := by
        unfold SgL at hy
        rw [List.map_map, List.getElem?_map] at hy
        rw [List.getElem?_map] at hx
        cases e : ms[i]? with
        | none => rw [e] at hx; cases hx
        | some z =>
          rw [e] at hx hy
          cases hx
          exact (Option.some.inj hy).symm
      subst ey
      walk_at "wt"
      exact ⟨m, rfl, Nat.lt_of_lt_of_le (am m mm) (by decide +kernel), q2⟩
    have s7 := same_new (o := .lst (SgL (ms.map figL))) nD2
    have h7 : upd H6 D2 (.lst (SgL (ms.map figL))) D2 = some (.lst (SgL (ms.map figL))) := upd_same
    have h67 := s7 _ _ h6
    have h57 := s7 _ _ h56
    have s07 := s06.trans s7
    generalize upd H6 D2 (.lst (SgL (ms.map figL))) = H7 at h7 s7 h67 h57 s07 ⊢
    refine ⟨_, _, h67, h7, by rw [SgL_len, List.length_map]; show 1 + ms.length ≤ _; omega, fun p8 n8 => ?_⟩
    have s8 := same_new (o := .lst ([.str (Sg wd)] ++ SgL (ms.map figL))) n8
    rw [blank_lit]
    have lens : ∀ p ∈ wd :: ms.map figL, p.length ≤ 101 := fun p m => by
      rcases List.mem_cons.mp m with rfl | m
      · omega
      · obtain ⟨x, mx, rfl⟩ := List.mem_map.mp m
        exact figL_len (Nat.lt_of_lt_of_le (am x mx) (by decide +kernel))
    have tot := sumlen_le lens
    rw [List.length_cons, List.length_map] at tot
    refine r_join (ps := wd :: ms.map figL) (.of upd_same) (by rw [List.length_cons, List.length_map]; show _ + (ms.length + 1) * 1 ≤ _; omega) ?_
    have ll : (lineP wd ms).length ≤ 900 := by
      have := joinL_len (sep := [32]) (ps := wd :: ms.map figL)
      rw [List.length_cons, List.length_map] at this
      show (TL.joinL [32] (wd :: ms.map figL)).length ≤ _
      have e : ([32] : List Nat).length = 1 := rfl
      rw [e] at this
      omega
    have h58 := s8 _ _ h57
    have s08 := s07.trans s8
    refine ⟨t5, wd, ms, rfl, h58, by omega, by omega, fun m hm => Nat.lt_of_lt_of_le (am m hm) (by decide +kernel), fun H9 s9 => ?_⟩
    have h59 := s9 _ _ h58
    have s09 := s08.trans s9
    have ed := deed_line fr (by rw [e3, lm]) am
    walk_at "wt"
    rw [if_neg (fun z => z rfl)]
    refine ⟨_, _, rfl, .inr ⟨lineP wd ms, t5, wd, ms, rfl, by omega, ed, rfl, h59⟩, fun H10 s10 => ?_⟩
    have h510 := s10 _ _ h59
    have s010 := s09.trans s10
    walk_at "wt"
    refine ⟨by omega, fun p11 n11 => ⟨by omega, fun p12 n12 => ⟨by omega, a, 4, ns, rfl, ?_, by omega, ?_⟩⟩⟩
    · exact ((s010.trans (same_new n11)).trans (same_new n12)).seq hS
    have s11 := same_new (o := .lst [.str "young"]) n11
    have s12 := same_new (o := .tup [.str "all"]) n12
    have h511 := s12 _ _ (s11 _ _ h510)
    have hp11 := s12 _ _ (upd_same (H := H10) (a := p11) (o := .lst [.str "young"]))
    have hp12 : upd (upd H10 p11 (.lst [.str "young"])) p12 (.tup [.str "all"]) p12 = some (.tup [.str "all"]) := upd_same
    have s012 := (s010.trans s11).trans s12
    generalize upd (upd H10 p11 (.lst [.str "young"])) p12 (.tup [.str "all"]) = H12 at h511 hp11 hp12 s012 ⊢
    walk_at "wt"
    refine menu_pick (fun v => ∃ ty, tyOf v H12 = some ty ∧ ty ≠ "str") ?_ (fun v gv => ?_)
    · obtain ⟨i, ei⟩ := Int.eq_ofNat_of_zero_le (Int.emod_nonneg (cell ns 4) (show (6 : Int) ≠ 0 by decide))
      have hi : i = 0 ∨ i = 1 ∨ i = 2 ∨ i = 3 ∨ i = 4 ∨ i = 5 := by omega
      rw [ei]
      rcases hi with rfl | rfl | rfl | rfl | rfl | rfl
      · exact ⟨_, rfl, "NoneType", rfl, by decide⟩
      · exact ⟨_, rfl, "int", rfl, by decide⟩
      · exact ⟨_, rfl, "list", by show tyO (H12 p11) = _; rw [hp11]; rfl, by decide⟩
      · exact ⟨_, rfl, "tuple", by show tyO (H12 p12) = _; rw [hp12]; rfl, by decide⟩
      · exact ⟨_, rfl, "bool", rfl, by decide⟩
      · exact ⟨_, rfl, "tuple", by show tyO (H12 t5) = _; rw [h511]; rfl, by decide⟩
    refine ⟨v, _, rfl, .inl ⟨rfl, .inr gv⟩, fun H13 s13 => ?_⟩
    have S13 := (s012.trans s13).seq hS
    walk_at "wt"
    refine ⟨a, 5, ns, rfl, S13, by omega, ?_⟩
    refine ⟨a, 6, ns, rfl, S13, by omega, ?_⟩
    refine ⟨lineP wd ms, _, _, rfl, ll, fun l2 hl2 => ?_⟩
    walk_at "wt"
    refine ⟨l2, rfl, by omega, ?_⟩
    cases e : deedP l2 with
    | none => exact fun H' s => ⟨_, _, rfl, .inl ⟨rfl, .inl ⟨l2, rfl, by omega, e⟩⟩, fun H14 _ => q _⟩
    | some p =>
      obtain ⟨w', ns'⟩ := p
      exact fun t' H' nt' s ht' => ⟨_, _, rfl, .inr ⟨l2, t', w', ns', rfl, by omega, e, rfl, ht'⟩, fun H14 _ => q _⟩
end

theorem facts {w : World} {K : PySem.W.Frag} {h : Heap} {mg : Str → Option Value} {f : Addr} (X : K.In h) (G : h.Ns mainGlobals mg) (hfa : mg ("law" : Str) = some (.ref f)) (c : He.SaysD fa fn K) (ce : exOk exL K = true) :
    ∃ fd : FuncData, (∀ (s : Shared) (v : Value), BindsTo s fd ⟨[v], []⟩ [("_law_script", v)]) ∧ ∀ base : Heap, K.In base → base.Ns mainGlobals mg → FnOk (PySem.Challenge.rw_cellkeep_k22_notes).prog w K mg base CX0 5 f fd ["_law_script"] (sp_law K) := by
  have T : Tx K mg := ⟨⟨h, X, G⟩, c, ce⟩
  have e := hfa.symm.trans (T.glo 29)
  cases e
  have F : ∀ base : Heap, Fn (PySem.Challenge.rw_cellkeep_k22_notes).prog w K mg base 5 "law" ["_law_script"] (sp_law K) := fun base => f_law T
  exact ⟨_, fun s v => (F h).bd s [v] rfl, fun base _ _ => quiet (F base).ok fun _ _ _ _ z => z⟩

end Pr
open PySem PySem.W PySem.Calls PyProof.Rows
theorem PySem.Challenge.cw_cellkeep_k22_notes_holds : PySem.Challenge.rw_cellkeep_k22_notes.Holds := by
  w_on; o_law
  refine HandSHeadRun.head_any (r := OpenLaw.row PySem.Challenge.rw_cellkeep_k22_notes) (q := view (OpenLaw.row PySem.Challenge.rw_cellkeep_k22_notes).prog [34]) (H := Pr.hk) (ob := Pr.ob) (M := 16000) (loose := Pr.loose) (d := HandSHeadRun.topDef (OpenLaw.row PySem.Challenge.rw_cellkeep_k22_notes).prog 34) (kwd := []) Pr.ob_eq
    (by kernel_rfl) (fun s => by kernel_rfl) Pr.run (by kernel_rfl) (by kernel_rfl) (by kernel_rfl) (by rfl) (by first | assumption | decide +kernel) (by decide +kernel) ⟨rfl, rfl, rfl, rfl, rfl, by decide +kernel⟩ ?hw ?hc
  case hw => w_witness2
  case hc =>
    refine L2.walk_ofE (l := PySem.Challenge.rw_cellkeep_k22_notes) (n := 63) (k := 5) (x := "_law_script") (CX := L2.CX0) rfl (by decide) (by kernel_rfl) ⟨rfl, by decide, by decide⟩ ?F (fun _ _ _ _ z => z)
    case F =>
      intro w mg fa h Y G hmg0
      obtain ⟨K, KX, c, ce⟩ := Y
      have hmg : mg ("law" : PySem.Str) = some (.ref fa) := by
        have e : (HandSHeadRun.topDef (OpenLaw.row PySem.Challenge.rw_cellkeep_k22_notes).prog 34).name = ("law" : PySem.Str) := by kernel_rfl
        rw [← e]
        exact hmg0
      obtain ⟨fd, hb, hF⟩ := Pr.facts (w := w) KX G hmg c ce
      exact ⟨K, fd, Pr.sp_law K, KX, hb, fun H a ns hl _ hS => ⟨a, ns, rfl, hS, hl, fun _ => rfl⟩, hF⟩
#print axioms PySem.Challenge.cw_cellkeep_k22_notes_holds

