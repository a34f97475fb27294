import PyProof.Rows.All
import Wide.All
import OpenK.AllK
import Wide.FinOn
import KE.KStateDown
import HandS.Base
import HandS.Call
import HandS.List
import HandS.Comp
import HandS.Ends
import HandS.Dict
import HandS.Iter
import HandS.Walk
import HandS.Text
import HandS.Words
import HandS.WordsList
import HandS.WordsDict
import HandS.Exc
import HandS.TryOnly
import HandS.TryMany
import HandS.ExcOwn
import HandS.WordsExc
import HandS.IsInst
import HandS.ExcIs
import HandS.Flow
import HandS.More
import HandS.Wide
import HandS.SortInts
import HandS.Defaults
import HandS.Head0
import HandS.Head1
import HandS.Head2
import HandS.HeadEnd
import HandS.HeadHook1
import HandS.HeadHook2
import PySem.Challenge.RW_cellkeep_k07_hands
set_option Elab.async false
set_option linter.all false
set_option maxRecDepth 100000
set_option maxHeartbeats 4000000
namespace G
open PySem PySem.Spec PyProof.Rows L2

/-! ## a caught exception as a tracked thing -/
/-- an exception object of class cls stands at a -/
def ExA (cls : Value) (a : Addr) : HO := .ext fun h => ∃ (o : Obj) (fv : Array Value), h.get? a = some o ∧ Zc cls none o ∧ o.data = .fields fv
theorem exA_ok {P : Program} {w : World} {H : Hp} {h : Heap} {a : Addr} {cls : Value} {o : Obj} {fv : Array Value} (e : h.get? a = some o) (z : Zc cls none o) (d : o.data = .fields fv) : ObjOk P w H h a (ExA cls a) :=
  ⟨⟨o, fv, e, z, d⟩, ⟨o, e⟩, fun _ _ ⟨o', fv', e', z', d'⟩ k => ⟨o', fv', k _ e', z', d'⟩⟩

section
variable {X : Cx} {pins : List (Addr × Obj)} {σ : L2.St} {H : Hp} {s : Shared}
/-- an object that stands untracked is tracked from now on -/
theorem track {a : Addr} {u : HO} (I : Inv X pins σ H s) (na : H a = none) (n0 : X.s_0.heap.get? a = none) (nL : a ≠ X.env.locals) (nC : ∀ x c, X.env.cells.lookup x = some c → c ≠ a)
    (nP : ∀ p ∈ X.pn ++ pins, p.1 ≠ a) (new : ObjOk X.prog X.w (upd H a u) s.heap a u) : Inv X pins σ (upd H a u) s := by
  have ne0 : ∀ b o, X.s_0.heap.get? b = some o → b ≠ a := fun b o e z => by rw [z, n0] at e; cases e
  have neH : ∀ b o, H b = some o → b ≠ a := fun b o e z => by rw [z, na] at e; cases e
  refine ⟨I.ok, I.os, I.bare, ⟨I.base.keep, I.base.slot, ?_, I.base.there, ?_, ?_, ?_⟩, I.loc, I.cell, ?_, ?_, ?_, ?_, I.len⟩
  · intro b o e n hx
    rw [upd_ne (ne0 b o e)]
    exact I.base.free b o e n hx
  · intro b xs e
    have q := I.base.tups b xs e
    rw [upd_ne (neH b _ q)]
    exact q
  · intro b o u' e
    have q := I.base.frzs b o u' e
    rw [upd_ne (neH b _ q)]
    exact q
  · intro b ps e
    obtain ⟨m, q⟩ := I.base.tbls b ps e
    exact ⟨m, by rw [upd_ne (neH b _ q)]; exact q⟩
  · rw [upd_ne (Ne.symm nL)]
    exact I.free
  · intro x c e
    rw [upd_ne (nC x c e)]
    exact I.freeC x c e
  · intro p hp
    obtain ⟨e, n, ne, nf, d⟩ := I.pin p hp
    exact ⟨e, by rw [upd_ne (nP p hp)]; exact n, ne, nf, d⟩
  · intro b o e
    by_cases hb : b = a
    · subst hb
      rw [upd_same] at e
      cases e
      exact new
    · rw [upd_ne hb] at e
      refine (I.hok b o e).stay (fun _ _ _ z => z) (fun c z => ?_) fun c xs z => ?_
      · rw [upd_ne (neH c _ z)]
        exact z
      · rw [upd_ne (neH c _ z)]
        exact z
/-- a list that was laid since the def began is forgotten -/
theorem forget {a : Addr} {xs : List V} (I : Inv X pins σ (upd H a (.lst xs)) s) (na : H a = none) (n0 : X.H_0 a = none) : Inv X pins σ H s := by
  have back : ∀ b, b ≠ a → upd H a (.lst xs) b = H b := fun b hb => upd_ne hb
  have nn : ∀ b, upd H a (.lst xs) b = none → H b = none := fun b e => by
    by_cases hb : b = a
    · rw [hb, upd_same] at e
      cases e
    · rw [upd_ne hb] at e
      exact e
  refine ⟨I.ok, I.os, I.bare, ⟨I.base.keep, I.base.slot, fun b o e n hx => nn b (I.base.free b o e n hx), I.base.there, ?_, ?_, ?_⟩, I.loc, I.cell, nn _ I.free, fun x c e => nn _ (I.freeC x c e), fun p hp => ?_, ?_, I.len⟩
  · intro b ys e
    rw [← back b (fun z => by rw [z, n0] at e; cases e)]
    exact I.base.tups b ys e
  · intro b o u' e
    rw [← back b (fun z => by rw [z, n0] at e; cases e)]
    exact I.base.frzs b o u' e
  · intro b ps e
    rw [← back b (fun z => by rw [z, n0] at e; cases e)]
    exact I.base.tbls b ps e
  · obtain ⟨e, n, r⟩ := I.pin p hp
    exact ⟨e, nn _ n, r⟩
  · intro b o e
    have hb : b ≠ a := fun z => by rw [z, na] at e; cases e
    have q : upd H a (.lst xs) b = some o := by rw [upd_ne hb]; exact e
    refine (I.hok b o q).stay (fun _ _ _ z => z) (fun c z => ?_) fun c ys z => ?_
    · rw [← back c (fun y => by rw [y, upd_same] at z; cases z)]
      exact z
    · rw [← back c (fun y => by rw [y, upd_same] at z; cases z)]
      exact z
/-- what a fresh address of now was ahead of the def -/
theorem fresh0 {a : Addr} (I : Inv X pins σ H s) (na : H a = none) (nt : ∀ o, X.H_0 a = some o → ∃ ob, X.s_0.heap.get? a = some ob) (hs : s.heap.objs.size ≤ a) : X.H_0 a = none := by
  cases e : X.H_0 a with
  | none => rfl
  | some o =>
    obtain ⟨ob, q⟩ := nt o e
    exact absurd (Nat.lt_of_lt_of_le (Heap.lt_size q) (Nat.le_trans I.sz hs)) (Nat.lt_irrefl _)
end
end G
namespace G
open PySem PySem.Spec PyProof.Rows L2
/-! ## a display that is subscripted at once -/
section
variable {X : Cx} {pins : List (Addr × Obj)} {σ : L2.St} {H : Hp} {s : Shared}
theorem itemAt {value slice : Expr} {E : Value → Shared → Prop} {Q : Value → Shared → Prop} {p : Addr} {xs : List V} {its : List Value} {i : Int} {t : Tok} {z : V} (r : Vals xs its) (pl : PlainL s.heap p its.toArray) (hz : xs.length ≤ sizeLine) (he : atI xs i = some z)
    (fin : ∀ w, RelV z w → Q w s) (hs : subscripted slice false (.ref p) (.int i t) = operate [.ref p, .int i t] (getItem (.ref p) (.int i t))) :
    wpAny (model X.prog X.w) X.A (subscriptTail value slice (.ref p) (.int i t)) Q E s := by
  obtain ⟨j, g1, g2, g3, g4, g5⟩ := atI_get he
  obtain ⟨u, eu, ru⟩ := r.get g2
  have ln := r.length
  have big := line63
  by_cases c : 0 ≤ i
  · have ej : i.toNat = j := Option.some.inj ((seqIndex_of c g5).symm.trans g1)
    exact item_listR pl.isList c (by omega) (by subst ej; simpa using eu) (fin u ru) hs
  · have ej : (i + (its.toArray.size : Int)).toNat = j := by
      have z1 := (seqIndex_neg (by omega) g4).symm.trans g1
      simp only [List.size_toArray, ← ln]
      exact Option.some.inj z1
    refine subscriptTail_builtinR (x := u) pl.isList.typeIs slot_list_getitem.lookup ?_ hs
    refine wpAny_getItem_list_neg (Q := fun r s' => r = u ∧ Q r s') pl.isList (by omega) ?_ (by omega) (by subst ej; simpa using eu) ⟨rfl, fin u ru⟩
    simp only [List.size_toArray]
    omega
/-- [a, b, ..][i]: the list is never seen again -/
def tMenu (ta : TA) (ti : TE) : TE := fun σ H Q => ta σ H fun xs H1 => xs.length ≤ sizeLine ∧ ti σ H1 fun y H2 => ∃ i v, y = .int i ∧ atI xs i = some v ∧ Q v H2
theorem pe_menu {es : List Expr} {b : Expr} {ta : TA} {tb : TE} {p1 pos : Pos} (ha : PA X es ta) (hb : PE X b tb) (hs : PlainIx b) : PE X (.Subscript (.List es p1) b pos) (tMenu ta tb) := by
  refine ⟨fun pins s σ H Q I h => ?_⟩
  refine Subscript_ (wpAny_List_spliced (thn (ha.run p1 pins s σ H _ I h) fun us s1 ⟨xs, H1, I1, r, z, q⟩ => ⟨by rw [← r.length]; exact z, ?_⟩))
  have hf : H1 s1.heap.objs.size = none := I1.hok.fresh (Nat.le_refl _)
  have I2 : Inv X pins σ H1 { s1 with heap := s1.heap.push { cls := .type "list", data := .seq us.toArray } } := I1.kept (t' := s1.toks) fun _ _ e => Heap.get?_push_of_some _ e
  have eo : (s1.heap.push { cls := .type "list", data := .seq us.toArray }).get? s1.heap.objs.size = some { cls := .type "list", data := .seq us.toArray } := Heap.get?_push_size _ rfl
  have I3 := I2.pinned (fp := [s1.heap.objs.size]) (fun b hb => by
    have e : b = s1.heap.objs.size := by simpa using hb
    subst e
    exact I1.fpOk (Nat.le_refl _) hf) fun b hb => by
    have e : b = s1.heap.objs.size := by simpa using hb
    subst e
    exact ⟨_, eo, fun v z => by cases z⟩
  refine thn (hb.run _ _ σ H1 _ I3 q) fun u s2 ⟨y, H2, I4, ry, i, v, ey, hv, q2⟩ => ?_
  subst ey
  obtain ⟨t, rfl⟩ := ry
  have e2 : s2.heap.get? s1.heap.objs.size = some { cls := .type "list", data := .seq us.toArray } :=
    (I4.pin (s1.heap.objs.size, _) (List.mem_append_right _ (List.mem_append_right _ (mem_pinsAt (List.mem_cons_self) eo)))).1
  exact itemAt r ⟨_, _, e2, rfl, rfl, rfl⟩ z hv (fun w rw' => ⟨v, H2, I4.unpinned, rw', q2⟩) (hs _ _)
end
/-! ## defs that may be called while an exception is handled: they raise nothing -/
structure RoomN (k : Nat) (A : Around) : Prop where
  dp : A.depth + 3 * k + 5 < recursionLimit
  un : A.units + 16 * k + 200 < cLine
theorem roomN_of {k : Nat} {A : Around} (r : Room k A) : RoomN k A := ⟨r.dp, r.un⟩
theorem roomN_mark {k : Nat} {A : Around} {v : Option Value} (r : Room k A) : RoomN k (A.mark v) := ⟨r.dp, r.un⟩
theorem RoomN.mono {j k : Nat} {A : Around} (r : RoomN k A) (h : j ≤ k) : RoomN j A := ⟨by have := r.dp; omega, by have := r.un; omega⟩
theorem RoomN.deeper {k : Nat} {A : Around} (r : RoomN (k + 1) A) (env : Env) : RoomN k (A.deeper env) :=
  ⟨by have h := r.dp; show A.depth + 1 + (3 * k + 5) < _; omega, by have h := r.un; show A.units + 3 + (16 * k + 200) < _; omega⟩
abbrev cxN (P : Program) (w : World) (K : PySem.W.Frag) (mg : Str → Option Value) (base : Heap) (N : List Str) (qual : Str) (scope : Scope) (f : Addr) (cd : Value) (A : Around) (outer : List Env) (s : Shared) (H : Hp) : Cx :=
  { cxOf CX0 P w K mg base N qual scope f cd A outer s H E0 with calm := false }
structure FnN (P : Program) (w : World) (K : PySem.W.Frag) (mg : Str → Option Value) (base : Heap) (k : Nat) (f : Addr) (fd : FuncData) (ps : List Str) (sp : Sp) : Prop where
  len : ∀ vs H Q E, sp vs H Q E → vs.length = ps.length
  run : ∀ (A : Around) (outer : List Env) (s : Shared) (H : Hp) (args : Args) (us : List Value) (vs : List V) (Q : VK), RoomN k A → Env0 P w K mg base A outer s H → BindsTo s fd args (ps.zip us) → Vals vs us → sp vs H Q E0 →
    codeAny (model P w) A (.call (.ref f) args) (CR CX0 outer P w H s Q E0) s
theorem FnN.mono {P : Program} {w : World} {K : PySem.W.Frag} {mg : Str → Option Value} {base : Heap} {j k : Nat} {f : Addr} {fd : FuncData} {ps : List Str} {sp : Sp} (F : FnN P w K mg base j f fd ps sp) (h : j ≤ k) : FnN P w K mg base k f fd ps sp :=
  ⟨F.len, fun A outer s H args us vs Q hr => F.run A outer s H args us vs Q (hr.mono h)⟩
section
variable {P : Program} {w : World} {K : PySem.W.Frag} {mg : Str → Option Value} {base : Heap}
theorem fn_ofN {x qual : Str} {params : Arguments} {body : List Stmt} {scope : Scope} {dvs : List V} {kws : List (Str × V)} {f : Addr} {fd : FuncData} {N ps : List Str} {k : Nat} {sp : Sp} (F : FunD K x qual params body scope dvs kws f fd) (S : FnScope N ps scope)
    (len : ∀ vs H Q E, sp vs H Q E → vs.length = ps.length)
    (hbody : ∀ (cdv : Value) (A : Around) (outer : List Env) (s : Shared) (H : Hp) (vs : List V) (Q : VK), RoomN k (A.deeper (envOfC qual scope s.heap.objs.size f cdv)) → sp vs H Q E0 →
      ∃ t, PSs (cxN P w K mg base N qual scope f cdv A outer s H) body t ∧ t { nx := fun _ H' => Q .non H', rt := Q } (start N vs) H) : FnN P w K mg base (k + 1) f fd ps sp := by
  obtain ⟨oc, od, dV, kV, doc, pm, an, cdv, ct, osl, rfl, lk, hcd, -, -⟩ := F.ex
  refine ⟨len, fun A outer s H args us vs Q hr e0 hb r hsp => ?_⟩
  have hl := len _ _ _ _ hsp
  have st : ∀ b o, base.get? b = some o → s.heap.get? b = some o := fun b o e => (e0.bs b o e).1
  have KX : K.In s.heap := e0.mod.kin.keeps st
  refine codeAny_call_function (by have := hr.dp; omega) (KX _ _ lk) rfl S.co S.gen rfl (PySem.W.codeRec_of KX hcd) (hb _ _ _ _ ?_)
  refine wpAny_newFunctionEnv_cells S.kind (fun y hy => ?_) fun env he s1 x => ?_
  · rcases S.par y.1 (List.of_mem_zip hy).1 with q | q
    · exact .inl q
    · exact .inr ⟨q, PySem.W.cellsFrom_some _ _ _ (.inl q)⟩
  subst he
  refine ⟨(e0.mod.nolimit.keeps st).keeps x.toInCall.keep, codeAny_func ?_⟩
  obtain ⟨t, ht, hq⟩ := hbody cdv A outer s H vs Q (hr.deeper _) hsp
  have J : Inv (cxOf CX0 P w K mg base N qual scope f cdv { A with handled := none } outer s H E0) [] (start N vs) H s1 := inv_start S rfl ⟨e0.frames, e0.mod, e0.bs, e0.bsz, e0.funs, e0.frf, e0.hok, e0.bare⟩ hl r x
  have I : Inv (cxN P w K mg base N qual scope f cdv A outer s H) [] (start N vs) H s1 :=
    ⟨⟨J.ok.mod, J.ok.kind, J.ok.glob, J.ok.blt, J.ok.above, J.ok.inj, J.ok.has, J.ok.cab, fun z => Bool.noConfusion (show false = true from z), Around.frames_deeper e0.frames, J.ok.stk, J.ok.exf, J.ok.bs, J.ok.bsz, J.ok.noex, J.ok.exfs, J.ok.funs, J.ok.frf⟩,
      J.os, J.bare, J.base, J.loc, J.cell, J.free, J.freeC, J.pin, J.hok, J.len⟩
  refine wpAny_mono (ht.run [] s1 (start N vs) H _ I hq) (fun fl s' hs => ?_) fun e s' hs => hs
  cases fl with
  | ret u =>
    obtain ⟨v, σ', H', J', rv, q⟩ := hs
    exact ⟨v, H', J'.os, J'.bare, J'.base, J'.hok, rv, q⟩
  | next =>
    obtain ⟨σ', H', J', q⟩ := hs
    exact ⟨.non, H', J'.os, J'.bare, J'.base, J'.hok, rfl, q⟩
  | brk => exact hs.elim fun _ z => z.elim fun _ y => y.2.elim
  | cont => exact hs.elim fun _ z => z.elim fun _ y => y.2.elim
/-- as any def -/
theorem FnN.ok {k : Nat} {f : Addr} {fd : FuncData} {ps : List Str} {sp : Sp} (F : FnN P w K mg base k f fd ps sp) (h0 : ∀ vs H Q E, sp vs H Q E → sp vs H Q E0) : FnOk P w K mg base (L2.CX P w) k f fd ps sp :=
  ⟨F.len, fun A outer s H args us vs Q E hr e0 hb r hsp => codeAny_mono (F.run A outer s H args us vs Q (roomN_of hr) e0 hb r (h0 _ _ _ _ hsp)) fun r s' hq => by
    cases r with
    | error e => exact hq.elim
    | ok fl => cases fl with
      | ret u => exact hq
      | next => exact hq.elim
      | brk => exact hq.elim
      | cont => exact hq.elim⟩
end
section
variable {X : Cx} {k : Nat} {f : Addr} {fd : FuncData} {ps : List Str} {sp : Sp} {x : Str} {q pos : Pos} {e : Expr} {es : List Expr} {t : TA}
def tCallN (sp : Sp) (t : TA) : TE := fun σ H Q => t σ H fun vs H1 => sp vs H1 Q E0
theorem pe_callN (F : FnN X.prog X.w X.K X.mg X.base k f fd ps sp) (hr : RoomN k X.A) (hg : Gl X x) (hm : X.mg x = some (.ref f)) (hk : PySem.W.keepIn X.K (.ref f) = true) (hb : Binds X.K fd ps [])
    (ha : PA X (e :: es) t) (hdb : (x == ("__debug__" : Str)) = false := by decide) (he : starEach (e :: es) X.env = (false, eval e X.env) :: starEach es X.env := by rfl) (hpl : (backTo pos (starEach es X.env)).any (·.1) = false := by rfl) :
    PE X (.Call (.Name x q) (e :: es) [] pos) (tCallN sp t) := by
  refine ⟨fun pins s σ H Q I h => ?_⟩
  refine wpAny_Call_Name_kw (ld_glob I hg hm ?_ hdb)
  refine PySem.W.callWith_K (h₀ := X.base) I.ok.mod.kin hk (thn (ha.run pos pins s σ H _ I h) fun us s1 hh => ?_) he hpl
  obtain ⟨vs, H1, I1, r, h2⟩ := hh
  refine ⟨I1.kIn, ?_⟩
  have hl : us.length = ps.length := by rw [← r.length]; exact F.len _ _ _ _ h2
  have b := hb s1 us I1.kIn (by rw [List.append_nil]; exact hl)
  rw [List.append_nil] at b
  refine wpAny_call (codeAny_mono (F.run X.A X.stack s1 H1 ⟨us, []⟩ us vs Q hr I1.env0 b r h2) fun r s' hq => ?_)
  cases r with
  | error e => exact hq.elim
  | ok fl => cases fl with
    | ret u => exact I1.after hq
    | next => exact hq.elim
    | brk => exact hq.elim
    | cont => exact hq.elim
end
end G
namespace G
open PySem PySem.Spec PyProof.Rows L2
/-! ## calls whose exceptions the surroundings take (W) -/
section
variable {X : Cx} {k : Nat} {f C : Addr} {fd : FuncData} {ps : List Str} {sp : Sp} {W : WX} {x m : Str} {p pos apos : Pos} {e o : Expr} {es : List Expr} {ta : TE} {t : TA}
/-- f(..) -/
def tCallW (sp : Sp) (W : WX) (t : TA) : TE := fun σ H Q => t σ H fun vs H1 => sp vs H1 Q fun c d H2 => W c d σ H2
theorem pe_callW (tk : Takes X W) (F : FnOk X.prog X.w X.K X.mg X.base (L2.CX X.prog X.w) k f fd ps sp) (hr : Room k X.A) (hg : Gl X x) (hm : X.mg x = some (.ref f)) (hk : PySem.W.keepIn X.K (.ref f) = true) (hb : Binds X.K fd ps [])
    (ha : PA X (e :: es) t) (hdb : (x == ("__debug__" : Str)) = false := by decide) (he : starEach (e :: es) X.env = (false, eval e X.env) :: starEach es X.env := by rfl) (hpl : (backTo pos (starEach es X.env)).any (·.1) = false := by rfl) :
    PE X (.Call (.Name x p) (e :: es) [] pos) (tCallW sp W t) := pe_callS F hr hg hm hk hb (fun σ => passAt tk σ) ha hdb he hpl
theorem pe_callW0 (tk : Takes X W) (F : FnOk X.prog X.w X.K X.mg X.base (L2.CX X.prog X.w) k f fd ps sp) (hr : Room k X.A) (hg : Gl X x) (hm : X.mg x = some (.ref f)) (hk : PySem.W.keepIn X.K (.ref f) = true) (hb : Binds X.K fd ps [])
    (hdb : (x == ("__debug__" : Str)) = false := by decide) : PE X (.Call (.Name x p) [] [] pos) (tCallW sp W tNil) := by
  refine ⟨fun pins s σ H Q I h => wpAny_Call_Name_kw (ld_glob I hg hm ?_ hdb)⟩
  exact PySem.W.callWith_K0 I.kIn hk (run_fnS (us := []) (E := WE W) F hr hb (passAt tk σ) I .nil h)
/-- o.m(..) -/
def tMethW (C : Addr) (m : Str) (sp : Sp) (W : WX) (ta : TE) (t : TA) : TE := fun σ H Q => ta σ H fun x H1 => ∃ a dx fs, x = .ref a ∧ H1 a = some (.ins C dx fs) ∧ fs.lookup m = none ∧ t σ H1 fun vs H2 => sp (x :: vs) H2 Q fun c d H3 => W c d σ H3
theorem pe_methW {pl : Sem Bool} (tk : Takes X W) (he : PE X o ta) (c : Cls X.K C) (hm : Meth X.K C m f) (F : FnOk X.prog X.w X.K X.mg X.base (L2.CX X.prog X.w) k f fd ps sp) (hr : Room k X.A) (hb : Binds X.K fd ps []) (ha : PA X (e :: es) t)
    (hst : starEach (e :: es) X.env = (false, eval e X.env) :: starEach es X.env := by rfl) (hpl : (backTo pos (starEach es X.env)).any (·.1) = false := by rfl)
    (ht : eval (.Call (.Attribute o m apos) (e :: es) [] pos) X.env = (do
      let z ← eval o X.env
      standAt apos.atName
      let (g, one) ← holding [z] (getMethod z m pl)
      callWith pos g one (backTo pos (starEach (e :: es) X.env)) (backToKw pos (keywordEach [] X.env))) := by rfl) :
    PE X (.Call (.Attribute o m apos) (e :: es) [] pos) (tMethW C m sp W ta t) := by
  refine ⟨fun pins s σ H Q I h => ?_⟩
  refine PySem.W.methodCall_KW (pl := pl) (thn (he.run pins s σ H _ I h) fun u s1 hh => ?_) ht
  obtain ⟨y, H1, I1, ry, a, dx, fs, ey, ea, l, q⟩ := hh
  subst ey
  obtain rfl : u = Value.ref a := ry
  refine getmeth_ok I1 ea c hm l ?_
  refine PySem.W.callWith_K (first := [.ref a]) (h₀ := X.base) I.ok.mod.kin hm.kp (thn (ha.run pos pins s1 σ H1 _ I1 q) fun us s2 h2 => ?_) hst hpl
  obtain ⟨vs, H2, I2, r, q2⟩ := h2
  exact ⟨I2.kIn, run_fnS (us := .ref a :: us) (vs := .ref a :: vs) (E := WE W) F hr hb (passAt tk σ) I2 (.cons rfl r) q2⟩
theorem pe_methW0 {pl : Sem Bool} (tk : Takes X W) (he : PE X o ta) (c : Cls X.K C) (hm : Meth X.K C m f) (F : FnOk X.prog X.w X.K X.mg X.base (L2.CX X.prog X.w) k f fd ps sp) (hr : Room k X.A) (hb : Binds X.K fd ps [])
    (ht : eval (.Call (.Attribute o m apos) [] [] pos) X.env = (do
      let z ← eval o X.env
      standAt apos.atName
      let (g, one) ← holding [z] (getMethod z m pl)
      callWith pos g one (backTo pos (starEach [] X.env)) (backToKw pos (keywordEach [] X.env))) := by rfl) :
    PE X (.Call (.Attribute o m apos) [] [] pos) (tMethW C m sp W ta tNil) := by
  refine ⟨fun pins s σ H Q I h => ?_⟩
  refine PySem.W.methodCall_KW (pl := pl) (thn (he.run pins s σ H _ I h) fun u s1 hh => ?_) ht
  obtain ⟨y, H1, I1, ry, a, dx, fs, ey, ea, l, q⟩ := hh
  subst ey
  obtain rfl : u = Value.ref a := ry
  refine getmeth_ok I1 ea c hm l ?_
  exact PySem.W.callWith_K0 (first := [.ref a]) I1.kIn hm.kp (run_fnS (us := [.ref a]) (vs := [.ref a]) (E := WE W) F hr hb (passAt tk σ) I1 (.cons rfl .nil) q)
/-- C(..) -/
def tMakeW (C : Addr) (sp : Sp) (W : WX) (t : TA) : TE := fun σ H Q => t σ H fun vs H1 => ∀ x dx, H1 x = none → H1 dx = none → dx ≠ x →
  sp (.ref x :: vs) (upd (upd H1 dx (.own x)) x (.ins C dx [])) (fun v H2 => v = .non ∧ Q (.ref x) H2) fun c d H3 => W c d σ H3
theorem run_makeW {pins : List (Addr × Obj)} {σ : L2.St} {H : Hp} {s : Shared} {Q : VK} {us : List Value} {vs : List V} (tk : Takes X W) (M : Mk X.K C f) (F : FnOk X.prog X.w X.K X.mg X.base (L2.CX X.prog X.w) k f fd ps sp) (hr : Room (k + 1) X.A) (hb : Binds X.K fd ps [])
    (I : Inv X pins σ H s) (r : Vals vs us)
    (h : ∀ x dx, H x = none → H dx = none → dx ≠ x → sp (.ref x :: vs) (upd (upd H dx (.own x)) x (.ins C dx [])) (fun v H2 => v = .non ∧ Q (.ref x) H2) fun c d H3 => W c d σ H3) :
    wpAny (model X.prog X.w) X.A (call (.ref C) us) (EP X pins σ Q) X.xe s := by
  have go := h (s.heap.objs.size + 1) s.heap.objs.size (I.hok.fresh (Nat.le_succ _)) (I.hok.fresh (Nat.le_refl _)) (Nat.ne_of_lt (Nat.lt_succ_self _))
  have J := Inv.made (C := C) I
  have r2 : Vals (V.ref (s.heap.objs.size + 1) :: vs) (Value.ref (s.heap.objs.size + 1) :: us) := .cons rfl r
  have hl : (Value.ref (s.heap.objs.size + 1) :: us).length = ps.length := r2.length.symm.trans (F.len _ _ _ _ go)
  have b := hb { s with heap := (s.heap.push PySem.W.emptyDict).push (PySem.W.instObj C s.heap.objs.size) } (Value.ref (s.heap.objs.size + 1) :: us) J.kIn (by rw [List.append_nil]; exact hl)
  rw [List.append_nil] at b
  refine wpAny_call (make_map (f := f) I.kIn M.makes M.init (beq_iff_eq.mp M.fn) (codeAny_mono (F.run _ X.stack _ _ ⟨Value.ref (s.heap.objs.size + 1) :: us, []⟩ _ _ _ _ (hr.make C us []) (J.env0.make C us []) b r2 go) fun r s' hq => ?_))
  cases r with
  | error e => exact passAt tk σ pins _ _ e s' J hq
  | ok fl =>
    cases fl with
    | ret u =>
      obtain ⟨v, H', I3, rv, ev, q3⟩ := J.after hq
      subst ev
      exact ⟨rv, V.ref (s.heap.objs.size + 1), H', I3, rfl, q3⟩
    | next => exact hq.elim
    | brk => exact hq.elim
    | cont => exact hq.elim
theorem pe_makeW (tk : Takes X W) (M : Mk X.K C f) (F : FnOk X.prog X.w X.K X.mg X.base (L2.CX X.prog X.w) k f fd ps sp) (hr : Room (k + 1) X.A) (hg : Gl X x) (hm : X.mg x = some (.ref C)) (hb : Binds X.K fd ps [])
    (ha : PA X (e :: es) t) (hdb : (x == ("__debug__" : Str)) = false := by decide) (he : starEach (e :: es) X.env = (false, eval e X.env) :: starEach es X.env := by rfl) (hpl : (backTo pos (starEach es X.env)).any (·.1) = false := by rfl) :
    PE X (.Call (.Name x p) (e :: es) [] pos) (tMakeW C sp W t) := by
  refine ⟨fun pins s σ H Q I h => wpAny_Call_Name_kw (ld_glob I hg hm ?_ hdb)⟩
  refine PySem.W.callWith_K (h₀ := X.base) I.ok.mod.kin M.kp (thn (ha.run pos pins s σ H _ I h) fun us s1 hh => ?_) he hpl
  obtain ⟨vs, H1, I1, r, q⟩ := hh
  exact ⟨I1.kIn, run_makeW tk M F hr hb I1 r q⟩
theorem pe_makeW0 (tk : Takes X W) (M : Mk X.K C f) (F : FnOk X.prog X.w X.K X.mg X.base (L2.CX X.prog X.w) k f fd ps sp) (hr : Room (k + 1) X.A) (hg : Gl X x) (hm : X.mg x = some (.ref C)) (hb : Binds X.K fd ps [])
    (hdb : (x == ("__debug__" : Str)) = false := by decide) : PE X (.Call (.Name x p) [] [] pos) (tMakeW C sp W tNil) := by
  refine ⟨fun pins s σ H Q I h => wpAny_Call_Name_kw (ld_glob I hg hm ?_ hdb)⟩
  exact PySem.W.callWith_K0 I.kIn M.kp (run_makeW (us := []) tk M F hr hb I .nil h)
end

/-! ## try .. except x as n, the exception a tracked thing in the suite -/
/-- what the clause wishes; slot i is n's -/
def wTr (K : PySem.W.Frag) (c : Value) (i : Nat) (ts : TS) (Wo : WX) (D : Ends) : WX := fun cls d σ H => ∃ b, PySem.W.exmOne K cls c = some b ∧
  (b = true → d = none ∧ ∀ a, H a = none → ts { nx := fun σ' H' => D.nx (σ'.set i none) H', rt := D.rt, bk := fun σ' H' => D.bk (σ'.set i none) H', ct := fun σ' H' => D.ct (σ'.set i none) H' } (σ.set i (some (.ref a))) (upd H a (ExA cls a))) ∧ (b = false → Wo cls d σ H)
section
variable {X : Cx} {x n : Str} {c : Value} {i : Nat} {body suite : List Stmt} {b0 : Stmt} {np pos pos' : Pos} {tb : WX → TS} {ts : TS} {Wo : WX}
theorem toSuite {pins : List (Addr × Obj)} {σ : L2.St} {H : Hp} {s : Shared} (I : Inv X pins σ H s) (a : Addr) : Inv (X.suite a (X.pn ++ pins)) [] σ H s :=
  ⟨I.ok.suite _ _, I.os, I.bare, I.base, I.loc, I.cell, I.free, I.freeC, fun p hp => I.pin p (by simpa using hp), I.hok, I.len⟩
theorem ofSuite {pins pl : List (Addr × Obj)} {σ : L2.St} {H : Hp} {s : Shared} {a : Addr} (ok : X.Ok) (I : Inv (X.suite a (X.pn ++ pins)) pl σ H s) : Inv X pins σ H s :=
  ⟨ok, I.os, I.bare, I.base, I.loc, I.cell, I.free, I.freeC, fun p hp => I.pin p (List.mem_append_left _ hp), I.hok, I.len⟩
theorem ps_tryT (hs : X.stack = X.env :: X.outer) (hf : X.env.frame = some X.env.locals) (hex : X.ex = []) (hN : X.N.Nodup) (hi : X.N[i]? = some n) (hln : X.env.kindOf n = some .local) (hc : Names X x c) (tk : Takes X Wo)
    (hb : ∀ (W : WX) (pn : List (Addr × Obj)) (xe : Value → Shared → Prop), Takes (X.tr pn xe) W → PassesOwn (model X.prog X.w) X.A X.env xe → PSs (X.tr pn xe) body (tb W))
    (hsu : ∀ (a : Addr) (pn : List (Addr × Obj)), PSs (X.suite a pn) (b0 :: suite) ts) :
    PS X (.Try body [.ExceptHandler (some (.Name x np)) (some n) (b0 :: suite) pos'] [] [] pos) (fun D σ H => tb (wTr X.K c i ts Wo D) D σ H) := by
  refine ⟨fun pins s σ H D I h => ?_⟩
  have ok := I.ok
  have hfr : X.A.frames = some (X.env :: X.outer) := by rw [ok.frames, hs]
  have lo : Loc X.env.scope n := .inl hln
  let rest : List ExceptHandler := [.ExceptHandler (some (.Name x np)) (some n) (b0 :: suite) pos']
  let M := model X.prog X.w
  let wish : Value → Shared → Prop := fun e u1 => wpAny M X.A (noteFrame e X.env) (fun _ u2 => wpAny M X.A (setFlight e none) (fun _ u3 => wpAny M X.A (handleBy e X.env rest) (SP X pins D) X.xe u3) X.xe u2) X.xe u1
  refine wpAny_Try_except (wpAny_mono ((hb (wTr X.K c i ts Wo D) (X.pn ++ pins) wish (fun u s' air => ?_) PassesOwn.looking).run [] s σ H D (I.toTry _) h) (fun fl s1 hsp => ?_) (fun e s1 he => he))
  · obtain ⟨a, B, sg, pi', σ1, H1, cls, d, rfl, Jt, nb, up, sky, na, os, ag, b, e1, yes, no⟩ := air
    have J : Inv X pins σ1 H1 sg := Jt.ofTry ok
    have sky' : Sky B (X.env :: X.outer) a (Zc cls d) X.env.locals s'.heap := by rw [← hs]; exact sky
    show wpAny M X.A (noteFrame (.ref a) X.env) _ _ _
    refine Sky.land Zc.steady hfr hf sky' fun h3 fl3 up3 => ?_
    have u3 := up.trans up3
    have J3 : Inv X pins σ1 H1 { s' with heap := h3 } := J.landed nb fl3.1 u3 os ag
    obtain ⟨o3, f3, g3, z3, d3⟩ := fl3.there
    have nfr : a ∉ frs (X.env :: X.outer) := fun hm => by
      obtain ⟨-, o', g', nf⟩ := fl3.2.2.1.mem hm
      rw [g3] at g'
      cases g'
      exact nf _ d3
    have nL : a ≠ X.env.locals := fun z => nfr (List.mem_filterMap.mpr ⟨X.env, List.mem_cons_self, by rw [hf, z]⟩)
    have nst : a ∉ frs X.stack := by rw [hs]; exact nfr
    have nB : B.get? a = none := fl3.2.1
    have ng : sg.heap.get? a = none := by
      cases e : sg.heap.get? a with
      | none => rfl
      | some o =>
        rw [nb a o e nst] at nB
        cases nB
    have n0 : X.s_0.heap.get? a = none := by
      cases e : X.s_0.heap.get? a with
      | none => rfl
      | some o =>
        obtain ⟨o', q⟩ := J.base.there a o e (by rw [hex]; exact List.not_mem_nil)
        rw [ng] at q
        cases q
    have nC : ∀ y z, X.env.cells.lookup y = some z → z ≠ a := fun y z e q => by
      obtain ⟨v, ob, e2, -⟩ := J.cell y z e
      rw [q, ng] at e2
      cases e2
    have nP : ∀ p ∈ X.pn ++ pins, p.1 ≠ a := fun p hp q => by
      have e2 := (J.pin p hp).1
      rw [q, ng] at e2
      cases e2
    have S3 := toSuite J3 a
    refine wpAny_handleBy_cons (codeAny_handlers_test ?_) (by intro q; cases q)
    have LT : PySem.W.Looks M h3 (typeOf (.ref a)) cls := fun _ _ _ _ k q => wpAny_typeOf_ref (k _ _ g3) (by rw [z3.1]; exact q)
    have LM := PySem.W.exm_one (M := M) J3.kIn LT e1
    have test : ∀ {Q : Value → Shared → Prop} {E : Value → Shared → Prop}, Q c { s' with heap := h3 } → wpAny M (X.A.mark (some (.ref a))) (eval (.Name x np) X.env) Q E { s' with heap := h3 } := fun {Q E} q => by
      obtain ⟨hg, hdb, hm | ⟨hm, hv, hnn⟩⟩ := hc
      · exact ld_glob (X := X.suite a (X.pn ++ pins)) S3 hg hm q hdb
      · exact ld_blt (X := X.suite a (X.pn ++ pins)) S3 hg hm hv q hnn hdb
    refine test (LM.here ?_)
    cases b with
    | true =>
      refine codeAny_handlers_suite_as (HandSPX.lands_againZ fl3 fun h4 fl4 up4 => ?_)
      have J4 : Inv X pins σ1 H1 { s' with heap := h4 } := J.landed nb fl4.1 (u3.trans up4) os ag
      obtain ⟨o4, f4, g4, z4, d4⟩ := fl4.there
      obtain ⟨ed, go⟩ := yes rfl
      subst ed
      have J5 := track (u := ExA cls a) J4 na n0 nL nC nP (exA_ok g4 z4 d4)
      refine store_ok (X := X.suite a (X.pn ++ pins)) (v := .ref a) (toSuite J5 a) hN hi lo rfl (fun s5 S5 => ?_) (.inr hln)
      refine wpAny_mono ((hsu a (X.pn ++ pins)).run [] s5 _ _ _ S5 (go a na)) (fun fl s6 hsp => ?_) (fun _ _ z => False.elim z)
      have out : ∀ {σ6 : L2.St} {H6 : Hp} {Q : Shared → Prop}, Inv (X.suite a (X.pn ++ pins)) [] σ6 H6 s6 → (∀ s7, Inv X pins (σ6.set i none) H6 s7 → Q s7) →
          wpAny M X.A (do bindName X.env n .none; unbindBehindTheSuite X.env n pos') (fun _ s7 => Q s7) X.xe s6 := fun S6 hq => gone_ok (ofSuite ok S6) hN hi hln hq
      cases fl with
      | next => exact hsp.elim fun _ z => z.elim fun _ q => out q.1 fun s7 J7 => ⟨_, _, J7, q.2⟩
      | brk => exact hsp.elim fun _ z => z.elim fun _ q => out q.1 fun s7 J7 => ⟨_, _, J7, q.2⟩
      | cont => exact hsp.elim fun _ z => z.elim fun _ q => out q.1 fun s7 J7 => ⟨_, _, J7, q.2⟩
      | ret u =>
        obtain ⟨v6, σ6, H6, S6, r6, q6⟩ := hsp
        exact out S6 fun s7 J7 => ⟨_, _, _, J7, r6, q6⟩
    | false =>
      show wpAny M X.A (handleBy (.ref a) X.env []) _ _ _
      refine wpAny_handleBy_nil ?_
      obtain ⟨-, -, -, oe, vs, T, oT, ts', he, hz, hd, h1, hr⟩ := id fl3
      unfold PySem.passOn
      refine wpAny_bind (wpAny_field he hd h1 ?_)
      rw [if_neg (show ¬ ((Value.ref T == Value.none) = true) from by simp)]
      have fin : wpAny M X.A (setFlight (.ref a) X.env.frame) (fun _ u4 => wpAny M X.A (throw (.ref a) : Sem Flow) (SP X pins D) X.xe u4) X.xe { s' with heap := h3 } := by
        rw [hf]
        refine HandSPX.setFlight_upZ fl3 fun h4 hh4 up4 => wpAny_throw (tk _ _ ?_)
        exact ⟨a, B, sg, pins, σ1, H1, cls, d, rfl, J, nb, u3.trans up4, .inr (.inr (by rw [hs]; exact hh4)), na, os, ag, no rfl⟩
      first
        | exact wpAny_bind (wpAny_pure (wpAny_bind fin))
        | exact wpAny_bind fin
  · cases fl with
    | next => exact hsp.elim fun σ1 z => z.elim fun H1 q => wpAny_execs_nil ⟨σ1, H1, q.1.ofTry ok, q.2⟩
    | brk => exact hsp.elim fun σ1 z => z.elim fun H1 q => ⟨σ1, H1, q.1.ofTry ok, q.2⟩
    | cont => exact hsp.elim fun σ1 z => z.elim fun H1 q => ⟨σ1, H1, q.1.ofTry ok, q.2⟩
    | ret u =>
      obtain ⟨v, σ1, H1, J, r, q⟩ := hsp
      exact ⟨v, σ1, H1, J.ofTry ok, r, q⟩
end
end G
namespace G
open PySem PySem.Spec PyProof.Rows L2
/-! ## isinstance -/
def tyO : Option HO → Option String
  | some (.lst _) => some "list"
  | some (.frz _ (.lst _)) => some "list"
  | some (.tup _) => some "tuple"
  | some (.dK _) => some "dict"
  | some (.dT _) => some "dict"
  | _ => none
def tyOf : V → Hp → Option String
  | .non, _ => some "NoneType"
  | .bl _, _ => some "bool"
  | .int _, _ => some "int"
  | .str _, _ => some "str"
  | .ref a, H => tyO (H a)
  | _, _ => none
theorem tyOf_ok {K : PySem.W.Frag} {x : V} {H : Hp} {t : String} (h : tyOf x H = some t) : TyX K H x (.type t) := by
  cases x with
  | non => cases h; exact .base .non
  | bl b => cases h; exact .base (.bl b)
  | int i => cases h; exact .base (.int i)
  | str z => cases h; exact .base (.str z)
  | byt z => cases h
  | flt z => cases h
  | ty z => cases h
  | ref a =>
    have h1 : tyO (H a) = some t := h
    unfold tyO at h1
    split at h1
    · rename_i e; cases h1; exact .base (.lst e)
    · rename_i e; cases h1; exact .base (.frz e)
    · rename_i e; cases h1; exact .base (.tup e)
    · rename_i e; cases h1; exact .base (.dK e)
    · rename_i e; cases h1; exact .base (.dT e)
    · cases h1
/-- the classes that are asked of plain things, and the answer -/
def isB (t n : String) : Bool := t == n || (t == "bool" && n == "int")
def tys : List String := ["NoneType", "bool", "int", "str", "list", "tuple", "dict"]
theorem isB_all : ∀ t ∈ tys, ∀ n ∈ (["int", "bool", "str", "list", "tuple", "dict"] : List String), kitB t n = some (isB t n) := by decide +kernel
theorem tyOf_in {x : V} {H : Hp} {t : String} (h : tyOf x H = some t) : t ∈ tys := by
  unfold tyOf at h
  split at h
  all_goals first
    | (cases h; decide)
    | (unfold tyO at h; split at h <;> first | (cases h; decide) | (cases h))
    | (cases h)
/-- isinstance(x, T) of a plain thing -/
def gIsi : List V → Hp → VK → Prop
  | [x, .ty n], H, Q => n ∈ (["int", "bool", "str", "list", "tuple", "dict"] : List String) ∧ ∃ t, tyOf x H = some t ∧ Q (.bl (isB t n)) H
  | _, _, _ => False
section
variable {X : Cx}
theorem call_gIsi : CallR X (.builtin "isinstance") gIsi := by
  intro pins s σ H xs us Q I r h
  unfold gIsi at h
  split at h
  · obtain ⟨hn, t, ht, q⟩ := h
    exact call_isi pins s σ _ _ us Q I r ⟨_, _, .type t, .type _, _, rfl, .ty _, tyOf_ok ht, kit_ty (isB_all t (tyOf_in ht) _ hn), q⟩
  · exact h.elim
/-- isinstance(e, C) of a caught error -/
def gIsE (K : PySem.W.Frag) : List V → Hp → VK → Prop
  | [.ref a, c], H, Q => ∃ D u b, H a = some (ExA (.ref D) a) ∧ ExcC K D ∧ ClsV c u ∧ PySem.W.kitOne K (.ref D) u = some b ∧ Q (.bl b) H
  | _, _, _ => False
theorem exA_kit {pins : List (Addr × Obj)} {σ : L2.St} {H : Hp} {s : Shared} {a D : Addr} (I : Inv X pins σ H s) (h : H a = some (ExA (.ref D) a)) (C : ExcC X.K D) : ∃ P : Heap → Prop, PySem.W.KitX X.K (.ref a) (.ref D) P ∧ P s.heap := by
  obtain ⟨⟨o, fv, e, z, d⟩, -, -⟩ := I.hok a _ h
  have J : PySem.W.InstAt s.heap a o D none := by
    obtain ⟨oc, od, dt, sl⟩ := o
    obtain ⟨z1, z2⟩ := z
    dsimp only at z1 z2 d
    subst z1 z2 d
    exact ⟨e, rfl, rfl, trivial⟩
  exact ⟨_, PySem.W.handS_kitx_exc C.hg C.hk C.hs C.hd C.ha C.hn C.ht C.hm, J⟩
theorem call_gIsE : CallR X (.builtin "isinstance") (gIsE X.K) := by
  intro pins s σ H xs us Q I r h
  unfold gIsE at h
  split at h
  · obtain ⟨D, u, b, ha, C, hc, hk, q⟩ := h
    obtain ⟨u1, u2, rfl, r1, r2⟩ := vals2 r
    have e2 := hc.eq r2
    subst e2
    cases (show u1 = Value.ref _ from r1)
    obtain ⟨P, Z, p⟩ := exA_kit I ha C
    exact PySem.W.kia_one Z I.kIn p hk (fun z => nomatch z) fun tk => ⟨.bl b, _, I.tok tk, rfl, q⟩
  · exact h.elim
/-- isinstance(e, (C1, C2, ..)) of a caught error: the tuple is never seen again -/
def tIsT (K : PySem.W.Frag) (ta : TE) (tc : TA) : TE := fun σ H Q => ta σ H fun x H1 => tc σ H1 fun cs H2 => cs.length ≤ sizeLine ∧ ∃ a D us b, x = .ref a ∧ H2 a = some (ExA (.ref D) a) ∧ ExcC K D ∧ Paired ClsV cs us ∧ PySem.W.kitAny K (.ref D) us = some b ∧ Q (.bl b) H2
theorem pe_isT {a : Expr} {es : List Expr} {x1} {ta : TE} {tc : TA} {p tp pos : Pos} (hg : Gl X "isinstance") (hm : X.mg "isinstance" = none) (ha : PE X a ta) (hc : PA X es tc)
    (he : starEach [a, .Tuple es x1 tp] X.env = [(false, eval a X.env), (false, eval (.Tuple es x1 tp) X.env)] := by rfl) : PE X (.Call (.Name "isinstance" p) [a, .Tuple es x1 tp] [] pos) (tIsT X.K ta tc) := by
  refine ⟨fun pins s σ H Q I h => ?_⟩
  refine wpAny_Call_Name_kw (ld_blt I hg hm (by decide +kernel : bootBuiltins "isinstance" = some (.builtin "isinstance")) ?_ (by decide) (by decide))
  refine PyProof.Rows.callWith_builtin1 (rest := [.Tuple es x1 tp]) ?_ he rfl
  rw [he]
  show wpAny _ _ (spliced [(false, eval a X.env), (false, eval (.Tuple es x1 tp) X.env)]) _ _ _
  refine Calls.spliced_cons (thn (ha.run pins s σ H _ I h) fun u s1 ⟨x, H1, I1, rx, q1⟩ => ?_)
  refine Calls.spliced_cons (wpAny_Tuple_spliced (x1 := x1) (thn (hc.run tp pins s1 σ H1 _ I1 q1) fun us s2 hh => ?_))
  obtain ⟨cs, H2, I2, rc, hz, y, D, ws, b, ex, hy, C, hcl, hk, q⟩ := hh
  subst ex
  cases (show u = Value.ref y from rx)
  refine ⟨by rw [← rc.length]; exact hz, Calls.spliced_nil ?_⟩
  have e3 := ClsV.all hcl rc
  subst e3
  have I3 : Inv X pins σ H2 { s2 with heap := s2.heap.push { cls := .type "tuple", data := .seq us.toArray } } := I2.kept (t' := s2.toks) fun _ _ e => Heap.get?_push_of_some _ e
  obtain ⟨P, Z, p⟩ := exA_kit I3 hy C
  exact PySem.W.kia_tup Z I3.kIn p (Heap.get?_push_size _ rfl) hk (fun z => nomatch z) fun tk => ⟨.bl b, H2, I3.tok tk, rfl, q⟩

/-! ## operators by the kinds of their values -/
def gAdd : R2
  | .int i, .int j, H, Q => Q (.int (i + j)) H
  | .str i, .str j, H, Q => i.length + j.length ≤ sizeLine ∧ Q (.str (i ++ j)) H
  | .ref a, .ref b, H, Q => ∃ xs zs, H a = some (.lst xs) ∧ H b = some (.lst zs) ∧ xs.length + zs.length ≤ sizeLine ∧ ∀ p, H p = none → Q (.ref p) (upd H p (.lst (xs ++ zs)))
  | _, _, _, _ => False
theorem op_gAdd : OpR X (binaryOp .Add) gAdd := by
  intro pins s σ H x y v u Q I rx ry h
  unfold gAdd at h
  split at h
  · exact op_add pins s σ _ _ _ v u Q I rx ry ⟨_, _, rfl, rfl, h⟩
  · exact op_add_str pins s σ _ _ _ v u Q I rx ry ⟨_, _, rfl, rfl, h.1, h.2⟩
  · obtain ⟨xs, zs, h1, h2, h3, h4⟩ := h
    exact op_cat pins s σ _ _ _ v u Q I rx ry ⟨_, _, xs, zs, rfl, rfl, h1, h2, h3, h4⟩
  · exact h.elim
def gMul : R2
  | .int i, .int j, H, Q => ((-(2 ^ 64) < i ∧ i < 2 ^ 64) ∨ (-(2 ^ 64) < j ∧ j < 2 ^ 64)) ∧ Q (.int (i * j)) H
  | .str z, .int n, H, Q => (n = 0 ∨ n = 1) ∧ Q (.str (if n = 1 then z else Str.empty)) H
  | .ref a, .int k, H, Q => ∃ xs, H a = some (.lst xs) ∧ -(2 ^ 63) ≤ k ∧ k < 2 ^ 63 ∧ xs.length * k.toNat ≤ sizeLine ∧ ∀ p, H p = none → Q (.ref p) (upd H p (.lst ((List.replicate k.toNat xs).flatten)))
  | _, _, _, _ => False
theorem op_gMul : OpR X (binaryOp .Mult) gMul := by
  intro pins s σ H x y v u Q I rx ry h
  unfold gMul at h
  split at h
  · exact op_mul pins s σ _ _ _ v u Q I rx ry ⟨_, _, rfl, rfl, h.1, h.2⟩
  · rename_i z n
    obtain ⟨hn, q⟩ := h
    obtain ⟨t, rfl⟩ := rx
    obtain ⟨t', rfl⟩ := ry
    rcases hn with rfl | rfl
    · exact PySem.P.mul_str_none (by decide) (by decide) ⟨.str Str.empty, _, I.tok _, ⟨_, rfl⟩, q⟩
    · refine PySem.P.mul_str (by decide) (fun _ z => by simp at z) (fun _ z => by simp at z) ?_
      exact ⟨.str z, _, I, ⟨_, rfl⟩, q⟩
  · obtain ⟨xs, h1, h2, h3, h4, h5⟩ := h
    exact op_rep pins s σ _ _ _ v u Q I rx ry ⟨_, _, xs, rfl, rfl, h1, h2, h3, h4, h5⟩
  · exact h.elim
/-- == : flat values; else data of any depth -/
def gEq (K : PySem.W.Frag) : R2 := fun x y H Q => if flatV x && flatV y then Q (.bl (eqV x y)) H else rEqD K x y H Q
def gNe (K : PySem.W.Frag) : R2 := fun x y H Q => if flatV x && flatV y then Q (.bl (!eqV x y)) H else rNeD K x y H Q
theorem flat_eqv {K : PySem.W.Frag} {H : Hp} {x y : V} (hx : flatV x = true) (hy : flatV y = true) :
    (scal x y = true ∧ decide (x = y) = eqV x y) ∨ ∃ d e, Dp K H x d ∧ Dp K H y e ∧ SeqAt.shaped d = true ∧ SeqAt.shaped e = true ∧ PyData.eqv d e = eqV x y := by
  cases x <;> first | (cases hx; done) | skip
  all_goals (cases y <;> first | (cases hy; done) | skip)
  case bl.int b i => exact .inr ⟨_, _, .bl b, .int i, by cases b <;> decide, rfl, rfl⟩
  case int.bl i b => exact .inr ⟨_, _, .int i, .bl b, rfl, by cases b <;> decide, rfl⟩
  all_goals refine .inl ⟨rfl, ?_⟩
  all_goals first
    | rfl
    | exact dec_int
    | exact dec_bl
    | exact dec_str
theorem op_gEq (hu : X.A.units + 64 < cLine) : OpR X (compareOp .Eq) (gEq X.K) := by
  intro pins s σ H x y v u Q I rx ry h
  unfold gEq at h
  split at h
  · rename_i c
    obtain ⟨c1, c2⟩ := Bool.and_eq_true_iff.mp c
    rcases flat_eqv (K := X.K) (H := H) c1 c2 with ⟨h1, h2⟩ | ⟨d, e, h1, h2, h3, h4, h5⟩
    · exact op_eq pins s σ _ _ _ v u Q I rx ry ⟨h1, by rw [h2]; exact h⟩
    · exact op_eqD hu pins s σ _ _ _ v u Q I rx ry ⟨d, e, h1, h2, h3, h4, by rw [h5]; exact h⟩
  · exact op_eqD hu pins s σ _ _ _ v u Q I rx ry h
theorem op_gNe (hu : X.A.units + 64 < cLine) : OpR X (compareOp .NotEq) (gNe X.K) := by
  intro pins s σ H x y v u Q I rx ry h
  unfold gNe at h
  split at h
  · rename_i c
    obtain ⟨c1, c2⟩ := Bool.and_eq_true_iff.mp c
    rcases flat_eqv (K := X.K) (H := H) c1 c2 with ⟨h1, h2⟩ | ⟨d, e, h1, h2, h3, h4, h5⟩
    · exact op_ne pins s σ _ _ _ v u Q I rx ry ⟨h1, by rw [h2]; exact h⟩
    · exact op_neD hu pins s σ _ _ _ v u Q I rx ry ⟨d, e, h1, h2, h3, h4, by rw [h5]; exact h⟩
  · exact op_neD hu pins s σ _ _ _ v u Q I rx ry h
/-- abs, int(..) -/
def gAbs : List V → Hp → VK → Prop
  | [.int i], H, Q => Q (.int (i.natAbs : Int)) H
  | _, _, _ => False
theorem call_gAbs : CallR X (.builtin "abs") gAbs := by
  intro pins s σ H xs us Q I r h
  unfold gAbs at h
  split at h
  · rename_i i
    refine call_abs pins s σ _ _ us Q I r ⟨i, rfl, ?_⟩
    have e : (if i < 0 then -i else i) = (i.natAbs : Int) := by split <;> omega
    rw [e]
    exact h
  · exact h.elim
def gInt : List V → Hp → VK → Prop
  | [.int i], H, Q => Q (.int i) H
  | [.bl k], H, Q => Q (.int (if k then 1 else 0)) H
  | _, _, _ => False
theorem call_gInt : CallR X (.type "int") gInt := by
  intro pins s σ H xs us Q I r h
  unfold gInt at h
  split at h
  · exact call_int1 pins s σ _ _ us Q I r (.inl ⟨_, rfl, h⟩)
  · exact call_int1 pins s σ _ _ us Q I r (.inr ⟨_, rfl, h⟩)
  · exact h.elim
end
end G
namespace G
open PySem PySem.Spec PyProof.Rows L2
open He (ga ma fAd Fa DefD SaysD)
/-! ## what the top has written, by names -/
/-- what isinstance asks of an error's class -/
def excB (K : PySem.W.Frag) (D : Addr) : Bool :=
  (decide (PySem.W.findIn K (.ref D) "__getattribute__" = some (some (.builtin "BaseException.__getattribute__"))) && (decide (PySem.W.findIn K (.ref D) "__getattr__" = some none) && (decide (PySem.W.subIn K (.ref D) (.type "BaseException") = some true) && PySem.W.hasDictIn K D))) &&
  (decide (PySem.W.findIn K (.ref D) "__class__" = some (some (.builtin "object.__class__"))) && (decide (PySem.W.specialIn K (.builtin "object.__class__") "__get__" = some (some (.builtin "getset_descriptor.__get__"))) &&
    (decide (PySem.W.takesIn K (.builtin "object.__class__") = some true) && decide (PySem.W.mroIn K D (.type "object") = some true))))
theorem excB_ok {K : PySem.W.Frag} {D : Addr} (h : excB K D = true) : ExcC K D := by
  obtain ⟨h1, h2⟩ := He.ba h
  obtain ⟨a1, h1⟩ := He.ba h1
  obtain ⟨a2, h1⟩ := He.ba h1
  obtain ⟨a3, a4⟩ := He.ba h1
  obtain ⟨b1, h2⟩ := He.ba h2
  obtain ⟨b2, h2⟩ := He.ba h2
  obtain ⟨b3, b4⟩ := He.ba h2
  exact ⟨of_decide_eq_true a1, of_decide_eq_true a2, of_decide_eq_true a3, a4, of_decide_eq_true b1, of_decide_eq_true b2, of_decide_eq_true b3, of_decide_eq_true b4⟩
/-- d is a class under c -/
def under (d c : Str) : Bool := d == c || c == "KeepError"
/-- a class of the module, no text -/
structure ClN (K : PySem.W.Frag) (C : Addr) : Prop where
  ha : PySem.W.findIn K (.ref C) "__class__" = some (some (.builtin "object.__class__"))
  hn : PySem.W.specialIn K (.builtin "object.__class__") "__get__" = some (some (.builtin "getset_descriptor.__get__"))
  htk : PySem.W.takesIn K (.builtin "object.__class__") = some true
  hm : PySem.W.mroIn K C (.type "object") = some true
  no : PySem.W.kitOne K (.ref C) (.type "str") = some false
def clB (K : PySem.W.Frag) (C : Addr) : Bool := (decide (PySem.W.findIn K (.ref C) "__class__" = some (some (.builtin "object.__class__"))) && (decide (PySem.W.specialIn K (.builtin "object.__class__") "__get__" = some (some (.builtin "getset_descriptor.__get__"))) &&
  (decide (PySem.W.takesIn K (.builtin "object.__class__") = some true) && (decide (PySem.W.mroIn K C (.type "object") = some true) && decide (PySem.W.kitOne K (.ref C) (.type "str") = some false)))))
theorem clB_ok {K : PySem.W.Frag} {C : Addr} (h : clB K C = true) : ClN K C := by
  obtain ⟨h1, h⟩ := He.ba h
  obtain ⟨h2, h⟩ := He.ba h
  obtain ⟨h3, h⟩ := He.ba h
  obtain ⟨h4, h5⟩ := He.ba h
  exact ⟨of_decide_eq_true h1, of_decide_eq_true h2, of_decide_eq_true h3, of_decide_eq_true h4, of_decide_eq_true h5⟩
structure XL where
  (ex cl : List Str)
/-- the errors' classes, and others -/
def exOk1 (L : List Str) (K : PySem.W.Frag) : Bool := L.all fun d => excB K (ga K d) && (decide (PySem.W.kitOne K (.ref (ga K d)) (.type "ValueError") = some true) &&
  (L.all fun c => decide (PySem.W.kitOne K (.ref (ga K d)) (.ref (ga K c)) = some (under d c)) && decide (PySem.W.exmOne K (.ref (ga K d)) (.ref (ga K c)) = some (under d c))))
def exOk (L : XL) (K : PySem.W.Frag) : Bool := exOk1 L.ex K && L.cl.all fun c => clB K (ga K c)
structure Told (fa : List Fa) (fn : List DefD) (xl : XL) (K : PySem.W.Frag) (mg : Str → Option Value) : Prop where
  ex : ∃ h : Heap, K.In h ∧ h.Ns mainGlobals mg
  says : SaysD fa fn K
  errs : exOk xl K = true
/-- the head's look -/
def lookG (n : Nat) (fa : List Fa) (fn : List DefD) (xl : XL) (g : Addr → Option Obj) : He.AlD × Bool := (He.obsDG n fa fn g, exOk xl (He.frG g (He.asD g n)))
def hookG (n : Nat) (fa : List Fa) (fn : List DefD) (xl : XL) : PySem.W.Hook where
  α := He.AlD × Bool
  obs := fun s => lookG n fa fn xl s.heap.get?
  val := fun _ => (He.valD fn, true)
  says := fun _ h => ∃ K : PySem.W.Frag, K.In h ∧ SaysD fa fn K ∧ exOk xl K = true
  of := fun _ _ e => ⟨_, He.frG_in, congrArg (fun z : He.AlD × Bool => z.1) e, congrArg (fun z : He.AlD × Bool => z.2) e⟩
  keeps := fun _ _ _ ⟨K, hK, c⟩ k => ⟨K, PySem.W.Frag.In.keeps hK k, c⟩
theorem lookG_eq {n : Nat} {fa : List Fa} {fn : List DefD} {xl : XL} {g : Addr → Option Obj} {s : Shared} (h : ∀ a, g a = s.heap.get? a) : lookG n fa fn xl g = (hookG n fa fn xl).obs s := by
  have e : g = s.heap.get? := funext h
  rw [e]
  rfl
section
variable {fa : List Fa} {fn : List DefD} {xl : XL} {K : PySem.W.Frag} {mg : Str → Option Value}
theorem Told.glo (T : Told fa fn xl K mg) (i : Nat) {x : Str} (h : fa[i]? = some (.glo x) := by rfl) : mg x = some (.ref (ga K x)) := let ⟨_, X, N⟩ := T.ex; He.glo_ok X N (T.says.fact i h)
theorem Told.free (T : Told fa fn xl K mg) (i : Nat) {x : Str} (h : fa[i]? = some (.free x) := by rfl) : mg x = none := let ⟨_, X, N⟩ := T.ex; He.free_ok X N (T.says.fact i h)
theorem Told.num (T : Told fa fn xl K mg) (i : Nat) {x : Str} {n : Int} (h : fa[i]? = some (.int x n) := by rfl) : ∃ t, mg x = some (.int n t) := let ⟨_, X, N⟩ := T.ex; He.int_ok X N (T.says.fact i h)
theorem Told.txt (T : Told fa fn xl K mg) (i : Nat) {x z : Str} (h : fa[i]? = some (.str x z) := by rfl) : ∃ t, mg x = some (.str z t) := let ⟨_, X, N⟩ := T.ex; He.str_ok X N (T.says.fact i h)
theorem Told.err (T : Told fa fn xl K mg) {d : Str} (h : d ∈ xl.ex) : ExcC K (ga K d) ∧ PySem.W.kitOne K (.ref (ga K d)) (.type "ValueError") = some true ∧
    ∀ c ∈ xl.ex, PySem.W.kitOne K (.ref (ga K d)) (.ref (ga K c)) = some (under d c) ∧ PySem.W.exmOne K (.ref (ga K d)) (.ref (ga K c)) = some (under d c) := by
  obtain ⟨h1, h2⟩ := He.ba (List.all_eq_true.mp (He.ba T.errs).1 d h)
  obtain ⟨h3, h4⟩ := He.ba h2
  refine ⟨excB_ok h1, of_decide_eq_true h3, fun c hc => ?_⟩
  obtain ⟨h5, h6⟩ := He.ba (List.all_eq_true.mp h4 c hc)
  exact ⟨of_decide_eq_true h5, of_decide_eq_true h6⟩
theorem Told.cln (T : Told fa fn xl K mg) {c : Str} (h : c ∈ xl.cl) : ClN K (ga K c) := clB_ok (List.all_eq_true.mp (He.ba T.errs).2 c h)
/-- isinstance(e, c) of an error of class d -/
theorem Told.isE (T : Told fa fn xl K mg) {d c : Str} {a : Addr} {H : Hp} {Q : VK} (ha : H a = some (ExA (.ref (ga K d)) a)) (hd : d ∈ xl.ex) (hc : c ∈ xl.ex) (q : Q (.bl (under d c)) H) : gIsE K [.ref a, .ref (ga K c)] H Q :=
  ⟨_, _, _, ha, (T.err hd).1, .own _, ((T.err hd).2.2 c hc).1, q⟩
theorem Told.isY (T : Told fa fn xl K mg) {d c : Str} {a : Addr} {H : Hp} {Q : VK} (ha : H a = some (ExA (.ref (ga K d)) a)) (hd : d ∈ xl.ex) (hc : c ∈ xl.ex) (e : under d c = true) (q : Q (.bl true) H) : gIsE K [.ref a, .ref (ga K c)] H Q := T.isE ha hd hc (e ▸ q)
theorem Told.isN (T : Told fa fn xl K mg) {d c : Str} {a : Addr} {H : Hp} {Q : VK} (ha : H a = some (ExA (.ref (ga K d)) a)) (hd : d ∈ xl.ex) (hc : c ∈ xl.ex) (e : under d c = false) (q : Q (.bl false) H) : gIsE K [.ref a, .ref (ga K c)] H Q := T.isE ha hd hc (e ▸ q)
theorem Told.isV (T : Told fa fn xl K mg) {d : Str} {a : Addr} {H : Hp} {Q : VK} (ha : H a = some (ExA (.ref (ga K d)) a)) (hd : d ∈ xl.ex) (q : Q (.bl true) H) : gIsE K [.ref a, .ty "ValueError"] H Q :=
  ⟨_, _, _, ha, (T.err hd).1, .ty _, (T.err hd).2.1, q⟩
end
section
variable {fa : List Fa} {fn : List DefD} {xl : XL} {K : PySem.W.Frag} {mg : Str → Option Value}
/-- an error of class d reaches «except c», c over it -/
theorem Told.caught (T : Told fa fn xl K mg) {d c : Str} {i : Nat} {ts : TS} {Wo : WX} {D : Ends} {σ : L2.St} {H : Hp} (hd : d ∈ xl.ex) (hc : c ∈ xl.ex) (hu : under d c = true)
    (h : ∀ a, H a = none → ts { nx := fun σ' H' => D.nx (σ'.set i none) H', rt := D.rt, bk := fun σ' H' => D.bk (σ'.set i none) H', ct := fun σ' H' => D.ct (σ'.set i none) H' } (σ.set i (some (.ref a))) (upd H a (ExA (.ref (ga K d)) a))) :
    wTr K (.ref (ga K c)) i ts Wo D (.ref (ga K d)) none σ H :=
  ⟨true, by rw [((T.err hd).2.2 c hc).2, hu], fun _ => ⟨rfl, h⟩, fun z => by cases z⟩
end
/-- the function object at f -/
def fdAt (K : PySem.W.Frag) (f : Addr) : FuncData := match K.lookup f with
  | some ⟨_, _, .func fd, _⟩ => fd
  | _ => PySem.W.fnOf "" "" { posonlyargs := [], args := [], vararg := none, kwonlyargs := [], kw_defaults := [], kwarg := none, defaults := [] } [] { kind := .function, names := [], isGenerator := false, isCoroutine := false } .none .none .none .none none .none .none
theorem fdAt_of {K : PySem.W.Frag} {x qual : Str} {params : Arguments} {body : List Stmt} {scope : Scope} {dvs : List V} {kws : List (Str × V)} {f : Addr} {fd : FuncData} (F : FunD K x qual params body scope dvs kws f fd) : fd = fdAt K f := by
  obtain ⟨oc, od, dV, kV, doc, pm, an, cdv, ct, osl, rfl, lk, -⟩ := F.ex
  unfold fdAt
  rw [lk]
/-- every argument is given -/
def Bnd (fd : FuncData) (ps : List Str) : Prop := ∀ (s : Shared) (us : List Value), us.length = ps.length → BindsTo s fd ⟨us, []⟩ (ps.zip us)
theorem Bnd.to {K : PySem.W.Frag} {fd : FuncData} {ps : List Str} (b : Bnd fd ps) : Binds K fd ps [] := fun s us _ hl => by
  rw [List.append_nil] at hl ⊢
  exact b s us hl
/-- a def of the module: its promise sp -/
structure Fn (P : Program) (w : World) (K : PySem.W.Frag) (mg : Str → Option Value) (base : Heap) (k : Nat) (x : Str) (ps : List Str) (sp : Sp) : Prop where
  ok : FnOk P w K mg base (L2.CX P w) k (ga K x) (fdAt K (ga K x)) ps sp
  bd : Bnd (fdAt K (ga K x)) ps
  kp : PySem.W.keepIn K (.ref (ga K x)) = true
  at_ : mg x = some (.ref (ga K x))
/-- nothing is raised -/
theorem quiet {P : Program} {w : World} {K : PySem.W.Frag} {mg : Str → Option Value} {base : Heap} {k : Nat} {f : Addr} {fd : FuncData} {ps : List Str} {sp : Sp} (F : FnOk P w K mg base (L2.CX P w) k f fd ps sp) (h0 : ∀ vs H Q E, sp vs H Q E → sp vs H Q E0) : FnOk P w K mg base CX0 k f fd ps sp :=
  ⟨F.len, fun A outer s H args us vs Q E hr e0 hb r hsp => codeAny_mono (F.run A outer s H args us vs Q E0 hr e0 hb r (h0 _ _ _ _ hsp)) fun r s' hq => by
    cases r with
    | error e =>
      obtain ⟨_, _, _, _, _, _, _, _, _, _, _, _, y⟩ := hq
      exact y.elim
    | ok fl => cases fl with
      | ret u => exact hq
      | next => exact hq.elim
      | brk => exact hq.elim
      | cont => exact hq.elim⟩
/-- .. that may be called in an except suite, too -/
structure FnH (P : Program) (w : World) (K : PySem.W.Frag) (mg : Str → Option Value) (base : Heap) (k : Nat) (x : Str) (ps : List Str) (sp : Sp) : Prop where
  ok : FnN P w K mg base k (ga K x) (fdAt K (ga K x)) ps sp
  bd : Bnd (fdAt K (ga K x)) ps
  kp : PySem.W.keepIn K (.ref (ga K x)) = true
  at_ : mg x = some (.ref (ga K x))
section
variable {fa : List Fa} {fn : List DefD} {xl : XL} {P : Program} {w : World} {K : PySem.W.Frag} {mg : Str → Option Value} {base : Heap}
theorem Told.mkFn (T : Told fa fn xl K mg) (i j : Nat) {d : DefD} {x : Str} {N ps : List Str} {k : Nat} {sp : Sp} (hd : fn[i]? = some d) (hx : d.at_ = (x, none)) (h0 : d.dfl = []) (h1 : d.kwd = []) (hg : fa[j]? = some (.glo x)) (S : FnScope N ps d.scope)
    (bnd : ∀ (kV doc pm : Value) (an : Option Addr) (cdv ct : Value) (us : List Value), us.length = ps.length → bindArgs (PySem.W.fnOf d.name d.qual d.params d.body d.scope .none kV doc pm an cdv ct) ⟨us, []⟩ = pure (ps.zip us))
    (len : ∀ vs H Q E, sp vs H Q E → vs.length = ps.length)
    (body : ∀ (cdv : Value) (A : Around) (outer : List Env) (s : Shared) (H : Hp) (vs : List V) (Q : VK) (E : XK), Room k (A.deeper (envOfC d.qual d.scope s.heap.objs.size (ga K x) cdv)) → sp vs H Q E →
      ∃ t, PSs (cxOf (L2.CX P w) P w K mg base N d.qual d.scope (ga K x) cdv A outer s H E) d.body t ∧ t { nx := fun _ H' => Q .non H', rt := Q } (start N vs) H) : Fn P w K mg base (k + 1) x ps sp := by
  obtain ⟨fd, F⟩ := T.says.def_ i hd
  have e : fAd K d.at_ = ga K x := by rw [hx]; rfl
  have e0 : d.dvs K = [] := by unfold DefD.dvs; rw [h0]; rfl
  have e1 : d.kws K = [] := by unfold DefD.kws; rw [h1]; rfl
  rw [e, e0, e1] at F
  have ef := fdAt_of F
  subst ef
  exact ⟨F.ok S len body, F.bindsA bnd, F.kp, T.glo j hg⟩
theorem Told.mkFnH (T : Told fa fn xl K mg) (i j : Nat) {d : DefD} {x : Str} {N ps : List Str} {k : Nat} {sp : Sp} (hd : fn[i]? = some d) (hx : d.at_ = (x, none)) (h0 : d.dfl = []) (h1 : d.kwd = []) (hg : fa[j]? = some (.glo x)) (S : FnScope N ps d.scope)
    (bnd : ∀ (kV doc pm : Value) (an : Option Addr) (cdv ct : Value) (us : List Value), us.length = ps.length → bindArgs (PySem.W.fnOf d.name d.qual d.params d.body d.scope .none kV doc pm an cdv ct) ⟨us, []⟩ = pure (ps.zip us))
    (len : ∀ vs H Q E, sp vs H Q E → vs.length = ps.length)
    (body : ∀ (cdv : Value) (A : Around) (outer : List Env) (s : Shared) (H : Hp) (vs : List V) (Q : VK), RoomN k (A.deeper (envOfC d.qual d.scope s.heap.objs.size (ga K x) cdv)) → sp vs H Q E0 →
      ∃ t, PSs (cxN P w K mg base N d.qual d.scope (ga K x) cdv A outer s H) d.body t ∧ t { nx := fun _ H' => Q .non H', rt := Q } (start N vs) H) : FnH P w K mg base (k + 1) x ps sp := by
  obtain ⟨fd, F⟩ := T.says.def_ i hd
  have e : fAd K d.at_ = ga K x := by rw [hx]; rfl
  have e0 : d.dvs K = [] := by unfold DefD.dvs; rw [h0]; rfl
  have e1 : d.kws K = [] := by unfold DefD.kws; rw [h1]; rfl
  rw [e, e0, e1] at F
  have ef := fdAt_of F
  subst ef
  exact ⟨fn_ofN F S len body, F.bindsA bnd, F.kp, T.glo j hg⟩
end
section
variable {X : Cx} {k : Nat} {ps : List Str} {sp : Sp} {W : WX} {x : Str} {p pos : Pos} {e : Expr} {es : List Expr} {t : TA}
theorem pe_fn (tk : Takes X W) (F : Fn X.prog X.w X.K X.mg X.base k x ps sp) (hr : Room k X.A) (hg : Gl X x) (ha : PA X (e :: es) t) (hdb : (x == ("__debug__" : Str)) = false := by decide)
    (he : starEach (e :: es) X.env = (false, eval e X.env) :: starEach es X.env := by rfl) (hpl : (backTo pos (starEach es X.env)).any (·.1) = false := by rfl) : PE X (.Call (.Name x p) (e :: es) [] pos) (tCallW sp W t) := by
  exact pe_callW tk F.ok hr hg F.at_ F.kp F.bd.to ha hdb he hpl
theorem pe_fn0 (tk : Takes X W) (F : Fn X.prog X.w X.K X.mg X.base k x ps sp) (hr : Room k X.A) (hg : Gl X x) (hdb : (x == ("__debug__" : Str)) = false := by decide) : PE X (.Call (.Name x p) [] [] pos) (tCallW sp W tNil) := by
  exact pe_callW0 tk F.ok hr hg F.at_ F.kp F.bd.to hdb
theorem pe_fnH (F : FnH X.prog X.w X.K X.mg X.base k x ps sp) (hr : RoomN k X.A) (hg : Gl X x) (ha : PA X (e :: es) t) (hdb : (x == ("__debug__" : Str)) = false := by decide)
    (he : starEach (e :: es) X.env = (false, eval e X.env) :: starEach es X.env := by rfl) (hpl : (backTo pos (starEach es X.env)).any (·.1) = false := by rfl) : PE X (.Call (.Name x p) (e :: es) [] pos) (tCallN sp t) := by
  exact pe_callN F.ok hr hg F.at_ F.kp F.bd.to ha hdb he hpl
theorem call_gLen : CallR X (.builtin "len") (L2.rLen X.K) := call_len
theorem call_lenK {K : PySem.W.Frag} (hK : X.K = K) : CallR X (.builtin "len") (L2.rLen K) := hK ▸ call_len
theorem op_eqK {K : PySem.W.Frag} (hK : X.K = K) (hu : X.A.units + 64 < cLine) : OpR X (compareOp .Eq) (gEq K) := hK ▸ op_gEq hu
theorem op_neK {K : PySem.W.Frag} (hK : X.K = K) (hu : X.A.units + 64 < cLine) : OpR X (compareOp .NotEq) (gNe K) := hK ▸ op_gNe hu
theorem ix_seqK {K : PySem.W.Frag} (hK : X.K = K) : IxR X (rIx K) := hK ▸ ix_seq
theorem call_isEK {K : PySem.W.Frag} (hK : X.K = K) : CallR X (.builtin "isinstance") (gIsE K) := hK ▸ call_gIsE
theorem sl_listK {K : PySem.W.Frag} (hK : X.K = K) : SlR X (rSlL K) := hK ▸ sl_list
theorem pi_listK {K : PySem.W.Frag} {tg l : Expr} {tl : TE} (hK : X.K = K) (h : PE X l tl) : PI X tg l (iList K tl) := hK ▸ pi_list h
def rListG (K : PySem.W.Frag) : List V → Hp → VK → Prop := fun xs H Q => ∃ p ys, xs = [.ref p] ∧ (SqL K H p ys ∨ SqT K H p ys) ∧ ∀ l, H l = none → Q (.ref l) (upd H l (.lst ys))
theorem call_listK {K : PySem.W.Frag} (hK : X.K = K) : CallR X (.type "list") (rListG K) := hK ▸ call_list_of
theorem pe_clsK {K : PySem.W.Frag} (hK : X.K = K) (h : X.mg x = some (.ref (ga K x))) (hg : Gl X x) (hdb : (x == ("__debug__" : Str)) = false := by decide) : PE X (.Name x pos) (tC (.ref (ga K x))) := pe_glob hg h rfl hdb
/-- a constant of the module -/
theorem pe_num {n : Int} (h : ∃ t, X.mg x = some (.int n t)) (hg : Gl X x) (hdb : (x == ("__debug__" : Str)) = false := by decide) : PE X (.Name x pos) (tC (.int n)) := by
  obtain ⟨t, e⟩ := h
  exact pe_glob hg e ⟨t, rfl⟩ hdb
theorem pe_txt {z : Str} (h : ∃ t, X.mg x = some (.str z t)) (hg : Gl X x) (hdb : (x == ("__debug__" : Str)) = false := by decide) : PE X (.Name x pos) (tC (.str z)) := by
  obtain ⟨t, e⟩ := h
  exact pe_glob hg e ⟨t, rfl⟩ hdb
/-- a class of the module as a value; a built-in class -/
theorem pe_cls (h : X.mg x = some (.ref (ga X.K x))) (hg : Gl X x) (hdb : (x == ("__debug__" : Str)) = false := by decide) : PE X (.Name x pos) (tC (.ref (ga X.K x))) := pe_glob hg h rfl hdb
theorem pe_ty {T : String} (hm : X.mg x = none) (hv : bootBuiltins x = some (.type T)) (hg : Gl X x) (hn : x ≠ "__name__" := by decide) (hdb : (x == ("__debug__" : Str)) = false := by decide) : PE X (.Name x pos) (tC (.ty T)) := pe_bltn hg hm hv rfl hn hdb
/-- raise C('..') -/
def tRaise (C : Addr) (W : WX) : TS := fun _ σ H => W (.ref C) none σ H
theorem ps_raiseK {K : PySem.W.Frag} {m : Str} {j : Nat} {p2 pos2 : Pos} (hK : X.K = K) (hc : X.calm = true) (tk : Takes X W) (h : (Fa.exc x).ok K = true) (hm : X.mg x = some (.ref (ga K x))) (hg : Gl X x) (hdb : (x == ("__debug__" : Str)) = false := by decide) :
    PS X (.Raise (some (.Call (.Name x p) [.Constant (.str m) j p2] [] pos)) none pos2) (tRaise (ga K x) W) := by
  subst hK
  obtain ⟨h1, h2, h3, h4⟩ := He.exc_ok h
  exact ps_raise hc tk (pmk_own PySem.F.excBase_ValueError h1 hm h2 (raises_own h3 h4) hg hdb)
theorem ps_raiseW {m : Str} {j : Nat} {p2 pos2 : Pos} (hc : X.calm = true) (tk : Takes X W) (h : (Fa.exc x).ok X.K = true) (hm : X.mg x = some (.ref (ga X.K x))) (hg : Gl X x) (hdb : (x == ("__debug__" : Str)) = false := by decide) :
    PS X (.Raise (some (.Call (.Name x p) [.Constant (.str m) j p2] [] pos)) none pos2) (tRaise (ga X.K x) W) := by
  obtain ⟨h1, h2, h3, h4⟩ := He.exc_ok h
  exact ps_raise hc tk (pmk_own PySem.F.excBase_ValueError h1 hm h2 (raises_own h3 h4) hg hdb)
end

/-! ## readings, step by step -/
section
variable {σ : L2.St} {H : Hp} {Q : VK} {QT : Bool → Hp → Prop} {QA : List V → Hp → Prop} {D : Ends} {v x y z : V} {i : Nat} {o : Option V} {ta tb te tc : TE} {t u c : TT} {ts us : TS} {as : TA} {r r' : R2} {g : TG} {b : Bool}
theorem x_K {CX : CXT} {P : Program} {w : World} {K : PySem.W.Frag} {mg : Str → Option Value} {base : Heap} {N : List Str} {qual : Str} {scope : Scope} {f : Addr} {cd : Value} {A : Around} {outer : List Env} {s : Shared} {E : XK} : (cxOf CX P w K mg base N qual scope f cd A outer s H E).K = K := rfl
theorem x_var0 : tVar 0 (some v :: σ) H Q = Q v H := propext ⟨fun ⟨_, e, q⟩ => by cases e; exact q, fun q => ⟨v, rfl, q⟩⟩
theorem x_varS : tVar (i + 1) (o :: σ) H Q = tVar i σ H Q := rfl
theorem x_c : tC v σ H Q = Q v H := rfl
theorem x_op : tOp r ta tb σ H Q = ta σ H fun x H1 => tb σ H1 fun y H2 => r x y H2 Q := rfl
theorem x_un {r : V → Hp → VK → Prop} : tUn r ta σ H Q = ta σ H fun x H1 => r x H1 Q := rfl
theorem x_cb {r : List V → Hp → VK → Prop} : tCB r as σ H Q = as σ H fun vs H1 => r vs H1 Q := rfl
theorem x_nil : tNil σ H QA = QA [] H := rfl
theorem x_cons : tCons te as σ H QA = te σ H fun x H1 => as σ H1 fun xs H2 => QA (x :: xs) H2 := rfl
theorem x_test : tTest te σ H QT = te σ H fun x H1 => ∃ k, x = .bl k ∧ QT k H1 := rfl
theorem x_b : tB te σ H QT = te σ H fun x H1 => ∃ k, x = .bl k ∧ QT k H1 := rfl
theorem x_ex {P : Bool → Prop} : (∃ k, V.bl b = .bl k ∧ P k) = P b := propext ⟨fun ⟨_, e, q⟩ => by cases e; exact q, fun q => ⟨b, rfl, q⟩⟩
theorem x_and : tAnd t u σ H QT = t σ H fun c H1 => if c = true then u σ H1 QT else QT false H1 := rfl
theorem x_or : tOr t u σ H QT = t σ H fun c H1 => if c = true then QT true H1 else u σ H1 QT := rfl
theorem x_not : tNot t σ H QT = t σ H fun c H1 => QT (!c) H1 := rfl
theorem x_andV : tAndV ta tb σ H Q = ta σ H fun x H1 => ∃ c, x = .bl c ∧ if c = true then tb σ H1 Q else Q (.bl false) H1 := rfl
theorem x_orV : tOrV ta tb σ H Q = ta σ H fun x H1 => ∃ c, x = .bl c ∧ if c = true then Q (.bl true) H1 else tb σ H1 Q := rfl
theorem x_notV : tNotV ta σ H Q = ta σ H fun x H1 => ∃ c, x = .bl c ∧ Q (.bl (!c)) H1 := rfl
theorem x_tif : tIf t ta tb σ H Q = t σ H fun c H1 => if c = true then ta σ H1 Q else tb σ H1 Q := rfl
theorem x_chain : tChain r r' ta tb tc σ H Q = ta σ H fun x H1 => tb σ H1 fun y H2 => r x y H2 fun z H3 => ∃ k, z = .bl k ∧ (if k = true then tc σ H3 fun u H4 => r' y u H4 Q else Q (.bl false) H3) := rfl
theorem x_menu : tMenu as te σ H Q = as σ H fun xs H1 => xs.length ≤ sizeLine ∧ te σ H1 fun y H2 => ∃ i v, y = .int i ∧ atI xs i = some v ∧ Q v H2 := rfl
theorem x_menuI {xs : List V} {n : Int} {P : V → Prop} : (∃ i v, V.int n = .int i ∧ atI xs i = some v ∧ P v) = ∃ v, atI xs n = some v ∧ P v := propext ⟨fun ⟨_, w, e, q⟩ => by cases e; exact ⟨w, q⟩, fun ⟨w, q⟩ => ⟨n, w, rfl, q⟩⟩
theorem x_lst : tLst as σ H Q = as σ H fun xs H1 => xs.length ≤ sizeLine ∧ ∀ p, H1 p = none → Q (.ref p) (upd H1 p (.lst xs)) := rfl
theorem x_tup : tTup as σ H Q = as σ H fun xs H1 => xs.length ≤ sizeLine ∧ ∀ p, H1 p = none → Q (.ref p) (upd H1 p (.tup xs)) := rfl
theorem x_dnew : tDNewK σ H Q = ∀ p, H p = none → Q (.ref p) (upd H p (.dK [])) := rfl
theorem x_callW {sp : Sp} {W : WX} : tCallW sp W as σ H Q = as σ H fun vs H1 => sp vs H1 Q fun c d H2 => W c d σ H2 := rfl
theorem x_callN {sp : Sp} : tCallN sp as σ H Q = as σ H fun vs H1 => sp vs H1 Q E0 := rfl
theorem x_seq : tSeq ts us D σ H = ts { D with nx := us D } σ H := rfl
theorem x_next : tNext D σ H = D.nx σ H := rfl
theorem x_ret : tRet te D σ H = te σ H D.rt := rfl
theorem x_retN : tRetN D σ H = D.rt .non H := rfl
theorem x_drop : tDrop te D σ H = te σ H fun _ H1 => D.nx σ H1 := rfl
theorem x_ifS : tIfS c ts us D σ H = c σ H fun b H1 => if b = true then ts D σ H1 else us D σ H1 := rfl
theorem x_asg : tAsg te g D σ H = te σ H fun x H1 => g x σ H1 D.nx := rfl
theorem x_name {N : L2.St → Hp → Prop} : gName i v σ H N = N (σ.set i (some v)) H := rfl
theorem x_raise {C : Addr} {W : WX} : tRaise C W D σ H = W (.ref C) none σ H := rfl
theorem x_start {N : List Str} {n : Str} {vs : List V} : start (n :: N) (v :: vs) = some v :: start N vs := by
  unfold L2.start
  simp only [List.map_cons, List.length_cons, List.cons_append, Nat.add_sub_add_right]
theorem x_start0 {N : List Str} : start N [] = List.replicate N.length none := by
  unfold L2.start
  simp
theorem q_str {a b : Str} (q : Q (.str a) H) (e : a = b) : Q (.str b) H := e ▸ q
theorem r_i0 {g : Int → Int → V} {a b : Int} : rI0 g (.int a) (.int b) H Q = Q (g a b) H := propext ⟨fun ⟨_, _, e, e', q⟩ => by cases e; cases e'; exact q, fun q => ⟨a, b, rfl, rfl, q⟩⟩
theorem r_i {C : Int → Int → Prop} {g : Int → Int → V} {a b : Int} : rI C g (.int a) (.int b) H Q = (C a b ∧ Q (g a b) H) := propext ⟨fun ⟨_, _, e, e', q⟩ => by cases e; cases e'; exact q, fun q => ⟨a, b, rfl, rfl, q⟩⟩
theorem r_u {g : Int → V} {a : Int} : rU g (.int a) H Q = Q (g a) H := propext ⟨fun ⟨_, e, q⟩ => by cases e; exact q, fun q => ⟨a, rfl, q⟩⟩
theorem r_addI {a b : Int} : gAdd (.int a) (.int b) H Q = Q (.int (a + b)) H := rfl
theorem r_addS {a b : Str} : gAdd (.str a) (.str b) H Q = (a.length + b.length ≤ sizeLine ∧ Q (.str (a ++ b)) H) := rfl
theorem r_mulI {a b : Int} : gMul (.int a) (.int b) H Q = (((-(2 ^ 64) < a ∧ a < 2 ^ 64) ∨ (-(2 ^ 64) < b ∧ b < 2 ^ 64)) ∧ Q (.int (a * b)) H) := rfl
theorem r_mulS {a : Str} {b : Int} : gMul (.str a) (.int b) H Q = ((b = 0 ∨ b = 1) ∧ Q (.str (if b = 1 then a else Str.empty)) H) := rfl
theorem r_eqI {K : PySem.W.Frag} {a b : Int} : gEq K (.int a) (.int b) H Q = Q (.bl (decide (a = b))) H := by
  show (if true = true then Q (.bl (a == b)) H else rEqD K (.int a) (.int b) H Q) = _
  rw [if_pos (rfl : true = true), Bool.beq_eq_decide_eq]
theorem r_neI {K : PySem.W.Frag} {a b : Int} : gNe K (.int a) (.int b) H Q = Q (.bl (!decide (a = b))) H := by
  show (if true = true then Q (.bl (!(a == b))) H else rNeD K (.int a) (.int b) H Q) = _
  rw [if_pos (rfl : true = true), Bool.beq_eq_decide_eq]
theorem r_eqF {K : PySem.W.Frag} (hx : flatV x = true) (hy : flatV y = true) : gEq K x y H Q = Q (.bl (eqV x y)) H := by unfold gEq; rw [hx, hy]; rfl
theorem r_neF {K : PySem.W.Frag} (hx : flatV x = true) (hy : flatV y = true) : gNe K x y H Q = Q (.bl (!eqV x y)) H := by unfold gNe; rw [hx, hy]; rfl
theorem r_eqS {K : PySem.W.Frag} {a b : Str} : gEq K (.str a) (.str b) H Q = Q (.bl (decide (a = b))) H := by
  show (if true = true then Q (.bl (a == b)) H else rEqD K (.str a) (.str b) H Q) = _
  rw [if_pos (rfl : true = true), Bool.beq_eq_decide_eq]
theorem r_neS {K : PySem.W.Frag} {a b : Str} : gNe K (.str a) (.str b) H Q = Q (.bl (!decide (a = b))) H := by
  show (if true = true then Q (.bl (!(a == b))) H else rNeD K (.str a) (.str b) H Q) = _
  rw [if_pos (rfl : true = true), Bool.beq_eq_decide_eq]
theorem n_ten : Int.natAbs 10 < 18446744073709551616 := by decide
theorem c_div {i j : Int} : CDiv i j = (0 < j ∧ j < 1073741824) := rfl
theorem c_pow {i j : Int} : CPow i j = (0 ≤ j ∧ j ≤ 1000000 ∧ i.natAbs < 2 ^ 64) := rfl
theorem r_absI {a : Int} : gAbs [.int a] H Q = Q (.int (a.natAbs : Int)) H := rfl
theorem r_intI {a : Int} : gInt [.int a] H Q = Q (.int a) H := rfl
theorem r_intB {k : Bool} : gInt [.bl k] H Q = Q (.int (if k then 1 else 0)) H := rfl
theorem r_lenL {K : PySem.W.Frag} {a : Addr} {xs : List V} (h : H a = some (.lst xs)) (q : Q (.int (xs.length : Int)) H) : L2.rLen K [.ref a] H Q := ⟨_, _, rfl, .inl ⟨_, SqL.of h, rfl⟩, q⟩
end
end G
namespace G
open PySem PySem.Spec PyProof.Rows L2
open He (ga ma fAd Fa DefD SaysD)
/-! ## classes of the module: fields, methods, instances -/
section
variable {fa : List Fa} {fn : List DefD} {xl : XL} {K : PySem.W.Frag} {mg : Str → Option Value}
theorem Told.cls (T : Told fa fn xl K mg) (i : Nat) {x : Str} (h : fa[i]? = some (.cls x) := by rfl) : Cls K (ga K x) := He.cls_ok (T.says.fact i h)
theorem Told.noat (T : Told fa fn xl K mg) (i : Nat) {x f : Str} (h : fa[i]? = some (.noat x f) := by rfl) : NoAttr K (ga K x) f := He.noat_ok (T.says.fact i h)
end
/-- x holds v in its field f, an instance of the class at C -/
def FldIs (C : Addr) (f : Str) (x : V) (H : Hp) (v : V) : Prop := ∃ a dx fs, x = .ref a ∧ H a = some (.ins C dx fs) ∧ fs.lookup f = some v
theorem fldIs {C : Addr} {f : Str} {a dx : Addr} {H : Hp} {fs : List (Str × V)} {v : V} (h : H a = some (.ins C dx fs)) (e : fs.lookup f = some v := by rfl) : FldIs C f (.ref a) H v := ⟨a, dx, fs, rfl, h, e⟩
def gFld (C : Addr) (ta : TE) (f : Str) : TE := fun σ H Q => ta σ H fun x H1 => ∃ v, FldIs C f x H1 v ∧ Q v H1
def gSetF (C : Addr) (ta tv : TE) (f : Str) : TS := fun D σ H => tv σ H fun y H1 => ta σ H1 fun x H2 => ∃ a dx fs, x = .ref a ∧ H2 a = some (.ins C dx fs) ∧ fs.length < 1000 ∧ D.nx σ (upd H2 a (.ins C dx (putF f y fs)))
section
variable {X : Cx} {C : Addr} {o e value : Expr} {f : Str} {pos pos' : Pos} {ta tv : TE}
theorem pe_fldC (c : Cls X.K C) (n : NoAttr X.K C f) (he : PE X e ta) (hb : attributeBase e f X.env (eval e X.env) = eval e X.env := by rfl) : PE X (.Attribute e f pos) (gFld C ta f) := by
  refine ⟨fun pins s σ H Q I h => attr_of hb (thn (he.run pins s σ H _ I h) fun u s1 hh => ?_)⟩
  obtain ⟨x, H1, I1, rx, v, ⟨a, dx, fs, ex, ea, l⟩, q⟩ := hh
  subst ex
  obtain rfl : u = Value.ref a := rx
  exact getattr_ok I1 ea c n l fun _ _ I2 ru => ⟨v, H1, I2, ru, q⟩
theorem ps_fldC (c : Cls X.K C) (n : NoAttr X.K C f) (ha : PE X o ta) (hv : PE X value tv) (hs : swapsWith value (some (.Attribute o f pos')) pos.line X.env = pure false := by rfl) : PS X (.Assign [.Attribute o f pos'] value pos) (gSetF C ta tv f) := by
  refine ⟨fun pins s σ H D I h => plainObj_wpAny_Assign_Attribute (thn (hv.run pins s σ H _ I h) fun u s1 hh => ?_) hs⟩
  obtain ⟨y, H1, I1, ry, q⟩ := hh
  refine thn (ha.run pins s1 σ H1 _ I1 q) fun ov s2 h2 => ?_
  obtain ⟨x, H2, I2, rx, a, dx, fs, ex, ea, l, q2⟩ := h2
  subst ex
  obtain rfl : ov = Value.ref a := rx
  exact setattr_ok I2 ea c n l ry fun _ I3 => ⟨σ, _, I3, q2⟩
end
/-- a method of a class of the module: its promise -/
structure Mt (P : Program) (w : World) (K : PySem.W.Frag) (mg : Str → Option Value) (base : Heap) (k : Nat) (C m : Str) (ps : List Str) (sp : Sp) : Prop where
  ok : FnOk P w K mg base (L2.CX P w) k (ma K (ga K C) m) (fdAt K (ma K (ga K C) m)) ps sp
  bd : Bnd (fdAt K (ma K (ga K C) m)) ps
  me : Meth K (ga K C) m (ma K (ga K C) m)
  cl : Cls K (ga K C)
/-- the __init__ of a class -/
structure Mi (P : Program) (w : World) (K : PySem.W.Frag) (mg : Str → Option Value) (base : Heap) (k : Nat) (C : Str) (ps : List Str) (sp : Sp) : Prop where
  ok : FnOk P w K mg base (L2.CX P w) k (ma K (ga K C) "__init__") (fdAt K (ma K (ga K C) "__init__")) ps sp
  bd : Bnd (fdAt K (ma K (ga K C) "__init__")) ps
  mkr : Mk K (ga K C) (ma K (ga K C) "__init__")
  at_ : mg C = some (.ref (ga K C))
section
variable {fa : List Fa} {fn : List DefD} {xl : XL} {P : Program} {w : World} {K : PySem.W.Frag} {mg : Str → Option Value} {base : Heap}
theorem Told.mkAny (T : Told fa fn xl K mg) (i : Nat) {d : DefD} {f : Addr} {N ps : List Str} {k : Nat} {sp : Sp} (hd : fn[i]? = some d) (hx : fAd K d.at_ = f) (h0 : d.dfl = []) (h1 : d.kwd = []) (S : FnScope N ps d.scope)
    (bnd : ∀ (kV doc pm : Value) (an : Option Addr) (cdv ct : Value) (us : List Value), us.length = ps.length → bindArgs (PySem.W.fnOf d.name d.qual d.params d.body d.scope .none kV doc pm an cdv ct) ⟨us, []⟩ = pure (ps.zip us))
    (len : ∀ vs H Q E, sp vs H Q E → vs.length = ps.length)
    (body : ∀ (cdv : Value) (A : Around) (outer : List Env) (s : Shared) (H : Hp) (vs : List V) (Q : VK) (E : XK), Room k (A.deeper (envOfC d.qual d.scope s.heap.objs.size f cdv)) → sp vs H Q E →
      ∃ t, PSs (cxOf (L2.CX P w) P w K mg base N d.qual d.scope f cdv A outer s H E) d.body t ∧ t { nx := fun _ H' => Q .non H', rt := Q } (start N vs) H) : FnOk P w K mg base (L2.CX P w) (k + 1) f (fdAt K f) ps sp ∧ Bnd (fdAt K f) ps := by
  obtain ⟨fd, F⟩ := T.says.def_ i hd
  have e0 : d.dvs K = [] := by unfold DefD.dvs; rw [h0]; rfl
  have e1 : d.kws K = [] := by unfold DefD.kws; rw [h1]; rfl
  rw [hx, e0, e1] at F
  have ef := fdAt_of F
  subst ef
  exact ⟨F.ok S len body, F.bindsA bnd⟩
theorem Told.mkMt (T : Told fa fn xl K mg) (i j l : Nat) {d : DefD} {C m : Str} {N ps : List Str} {k : Nat} {sp : Sp} (hd : fn[i]? = some d) (hx : d.at_ = (C, some m)) (h0 : d.dfl = []) (h1 : d.kwd = []) (hg : fa[j]? = some (.meth C m)) (hc : fa[l]? = some (.cls C)) (S : FnScope N ps d.scope)
    (bnd : ∀ (kV doc pm : Value) (an : Option Addr) (cdv ct : Value) (us : List Value), us.length = ps.length → bindArgs (PySem.W.fnOf d.name d.qual d.params d.body d.scope .none kV doc pm an cdv ct) ⟨us, []⟩ = pure (ps.zip us))
    (len : ∀ vs H Q E, sp vs H Q E → vs.length = ps.length)
    (body : ∀ (cdv : Value) (A : Around) (outer : List Env) (s : Shared) (H : Hp) (vs : List V) (Q : VK) (E : XK), Room k (A.deeper (envOfC d.qual d.scope s.heap.objs.size (ma K (ga K C) m) cdv)) → sp vs H Q E →
      ∃ t, PSs (cxOf (L2.CX P w) P w K mg base N d.qual d.scope (ma K (ga K C) m) cdv A outer s H E) d.body t ∧ t { nx := fun _ H' => Q .non H', rt := Q } (start N vs) H) : Mt P w K mg base (k + 1) C m ps sp := by
  obtain ⟨a, b⟩ := T.mkAny (P := P) (w := w) (base := base) i hd (by rw [hx]; rfl) h0 h1 S bnd len body
  exact ⟨a, b, He.meth_ok (T.says.fact j hg), T.cls l hc⟩
theorem Told.mkMi (T : Told fa fn xl K mg) (i j l : Nat) {d : DefD} {C : Str} {N ps : List Str} {k : Nat} {sp : Sp} (hd : fn[i]? = some d) (hx : d.at_ = (C, some ("__init__" : Str))) (h0 : d.dfl = []) (h1 : d.kwd = []) (hg : fa[j]? = some (.mkr C)) (hc : fa[l]? = some (.glo C)) (S : FnScope N ps d.scope)
    (bnd : ∀ (kV doc pm : Value) (an : Option Addr) (cdv ct : Value) (us : List Value), us.length = ps.length → bindArgs (PySem.W.fnOf d.name d.qual d.params d.body d.scope .none kV doc pm an cdv ct) ⟨us, []⟩ = pure (ps.zip us))
    (len : ∀ vs H Q E, sp vs H Q E → vs.length = ps.length)
    (body : ∀ (cdv : Value) (A : Around) (outer : List Env) (s : Shared) (H : Hp) (vs : List V) (Q : VK) (E : XK), Room k (A.deeper (envOfC d.qual d.scope s.heap.objs.size (ma K (ga K C) "__init__") cdv)) → sp vs H Q E →
      ∃ t, PSs (cxOf (L2.CX P w) P w K mg base N d.qual d.scope (ma K (ga K C) "__init__") cdv A outer s H E) d.body t ∧ t { nx := fun _ H' => Q .non H', rt := Q } (start N vs) H) : Mi P w K mg base (k + 1) C ps sp := by
  obtain ⟨a, b⟩ := T.mkAny (P := P) (w := w) (base := base) i hd (by rw [hx]; rfl) h0 h1 S bnd len body
  exact ⟨a, b, He.mkr_ok (T.says.fact j hg), T.glo l hc⟩
end
/-- x is an instance of the class at C, its attributes none of the name m -/
def Recv (C : Addr) (m : Str) (x : V) (H : Hp) : Prop := ∃ a dx fs, x = .ref a ∧ H a = some (.ins C dx fs) ∧ fs.lookup m = none
theorem recv {C : Addr} {m : Str} {a dx : Addr} {H : Hp} {fs : List (Str × V)} (h : H a = some (.ins C dx fs)) (e : fs.lookup m = none := by rfl) : Recv C m (.ref a) H := ⟨a, dx, fs, rfl, h, e⟩
section
variable {X : Cx} {k : Nat} {C m : Str} {ps : List Str} {sp : Sp} {W : WX} {p pos apos : Pos} {o e : Expr} {es : List Expr} {ta : TE} {t : TA}
def gMeth (C : Addr) (m : Str) (sp : Sp) (W : WX) (ta : TE) (t : TA) : TE := fun σ H Q => ta σ H fun x H1 => Recv C m x H1 ∧ t σ H1 fun vs H2 => sp (x :: vs) H2 Q fun c d H3 => W c d σ H3
theorem pe_mt {pl : Sem Bool} {K : PySem.W.Frag} (hK : X.K = K) (tk : Takes X W) (he : PE X o ta) (F : Mt X.prog X.w K X.mg X.base k C m ps sp) (hr : Room k X.A) (ha : PA X (e :: es) t)
    (hst : starEach (e :: es) X.env = (false, eval e X.env) :: starEach es X.env := by rfl) (hpl : (backTo pos (starEach es X.env)).any (·.1) = false := by rfl)
    (ht : eval (.Call (.Attribute o m apos) (e :: es) [] pos) X.env = (do
      let z ← eval o X.env
      standAt apos.atName
      let (g, one) ← holding [z] (getMethod z m pl)
      callWith pos g one (backTo pos (starEach (e :: es) X.env)) (backToKw pos (keywordEach [] X.env))) := by rfl) :
    PE X (.Call (.Attribute o m apos) (e :: es) [] pos) (gMeth (ga K C) m sp W ta t) := by
  subst hK
  refine ⟨fun pins s σ H Q I h => ?_⟩
  refine PySem.W.methodCall_KW (pl := pl) (thn (he.run pins s σ H _ I h) fun u s1 hh => ?_) ht
  obtain ⟨y, H1, I1, ry, ⟨a, dx, fs, ey, ea, l⟩, q⟩ := hh
  subst ey
  obtain rfl : u = Value.ref a := ry
  refine getmeth_ok I1 ea F.cl F.me l ?_
  refine PySem.W.callWith_K (first := [.ref a]) (h₀ := X.base) I.ok.mod.kin F.me.kp (thn (ha.run pos pins s1 σ H1 _ I1 q) fun us s2 h2 => ?_) hst hpl
  obtain ⟨vs, H2, I2, r, q2⟩ := h2
  exact ⟨I2.kIn, run_fnS (us := .ref a :: us) (vs := .ref a :: vs) (E := WE W) F.ok hr F.bd.to (passAt tk σ) I2 (.cons rfl r) q2⟩
theorem pe_mt0 {pl : Sem Bool} {K : PySem.W.Frag} (hK : X.K = K) (tk : Takes X W) (he : PE X o ta) (F : Mt X.prog X.w K X.mg X.base k C m ps sp) (hr : Room k X.A)
    (ht : eval (.Call (.Attribute o m apos) [] [] pos) X.env = (do
      let z ← eval o X.env
      standAt apos.atName
      let (g, one) ← holding [z] (getMethod z m pl)
      callWith pos g one (backTo pos (starEach [] X.env)) (backToKw pos (keywordEach [] X.env))) := by rfl) :
    PE X (.Call (.Attribute o m apos) [] [] pos) (gMeth (ga K C) m sp W ta tNil) := by
  subst hK
  refine ⟨fun pins s σ H Q I h => ?_⟩
  refine PySem.W.methodCall_KW (pl := pl) (thn (he.run pins s σ H _ I h) fun u s1 hh => ?_) ht
  obtain ⟨y, H1, I1, ry, ⟨a, dx, fs, ey, ea, l⟩, q⟩ := hh
  subst ey
  obtain rfl : u = Value.ref a := ry
  refine getmeth_ok I1 ea F.cl F.me l ?_
  exact PySem.W.callWith_K0 (first := [.ref a]) I1.kIn F.me.kp (run_fnS (us := [.ref a]) (vs := [.ref a]) (E := WE W) F.ok hr F.bd.to (passAt tk σ) I1 (.cons rfl .nil) q)
theorem pe_mk {K : PySem.W.Frag} (hK : X.K = K) (tk : Takes X W) (F : Mi X.prog X.w K X.mg X.base k C ps sp) (hr : Room (k + 1) X.A) (hg : Gl X C) (ha : PA X (e :: es) t) (hdb : (C == ("__debug__" : Str)) = false := by decide)
    (he : starEach (e :: es) X.env = (false, eval e X.env) :: starEach es X.env := by rfl) (hpl : (backTo pos (starEach es X.env)).any (·.1) = false := by rfl) : PE X (.Call (.Name C p) (e :: es) [] pos) (tMakeW (ga K C) sp W t) := by
  subst hK
  exact pe_makeW tk F.mkr F.ok hr hg F.at_ F.bd.to ha hdb he hpl
theorem pe_mk0 {K : PySem.W.Frag} (hK : X.K = K) (tk : Takes X W) (F : Mi X.prog X.w K X.mg X.base k C ps sp) (hr : Room (k + 1) X.A) (hg : Gl X C) (hdb : (C == ("__debug__" : Str)) = false := by decide) : PE X (.Call (.Name C p) [] [] pos) (tMakeW (ga K C) sp W tNil) := by
  subst hK
  exact pe_makeW0 tk F.mkr F.ok hr hg F.at_ F.bd.to hdb
/-- least, greatest of two -/
def gMin : List V → Hp → VK → Prop
  | [.int i, .int j], H, Q => Q (.int (min i j)) H
  | _, _, _ => False
def gMax : List V → Hp → VK → Prop
  | [.int i, .int j], H, Q => Q (.int (max i j)) H
  | _, _, _ => False
theorem call_gMin (hc : X.calm = true) : CallR X (.builtin "min") gMin := by
  intro pins s σ H xs us Q I r h
  unfold gMin at h
  split at h
  · rename_i i j
    refine call_min2 hc pins s σ _ _ us Q I r ⟨i, j, rfl, ?_⟩
    have e : (if j < i then j else i) = min i j := by split <;> omega
    rw [e]
    exact h
  · exact h.elim
theorem call_gMax (hc : X.calm = true) : CallR X (.builtin "max") gMax := by
  intro pins s σ H xs us Q I r h
  unfold gMax at h
  split at h
  · rename_i i j
    refine call_max2 hc pins s σ _ _ us Q I r ⟨i, j, rfl, ?_⟩
    have e : (if j > i then j else i) = max i j := by split <;> omega
    rw [e]
    exact h
  · exact h.elim
end
section
variable {σ : L2.St} {H : Hp} {Q : VK} {D : Ends} {C : Addr} {f m : Str} {ta tv : TE} {as : TA} {sp : Sp} {W : WX} {a b : Int} {y x i : V} {S : TSet}
theorem x_fld : gFld C ta f σ H Q = ta σ H fun x H1 => ∃ v, FldIs C f x H1 v ∧ Q v H1 := rfl
theorem x_setF : gSetF C ta tv f D σ H = tv σ H fun y H1 => ta σ H1 fun x H2 => ∃ a dx fs, x = .ref a ∧ H2 a = some (.ins C dx fs) ∧ fs.length < 1000 ∧ D.nx σ (upd H2 a (.ins C dx (putF f y fs))) := rfl
theorem x_meth : gMeth C m sp W ta as σ H Q = ta σ H fun x H1 => Recv C m x H1 ∧ as σ H1 fun vs H2 => sp (x :: vs) H2 Q fun c d H3 => W c d σ H3 := rfl
theorem x_make : tMakeW C sp W as σ H Q = as σ H fun vs H1 => ∀ x dx, H1 x = none → H1 dx = none → dx ≠ x → sp (.ref x :: vs) (upd (upd H1 dx (.own x)) x (.ins C dx [])) (fun v H2 => v = .non ∧ Q (.ref x) H2) fun c d H3 => W c d σ H3 := rfl
theorem x_sub {to ti : TE} {N : L2.St → Hp → Prop} : gSub to ti S y σ H N = to σ H fun o H1 => ti σ H1 fun i H2 => S o i y H2 fun H3 => N σ H3 := rfl
theorem r_min : gMin [.int a, .int b] H Q = Q (.int (min a b)) H := rfl
theorem r_max : gMax [.int a, .int b] H Q = Q (.int (max a b)) H := rfl
/-- a store to a list at i -/
theorem r_setL {p : Addr} {xs : List V} {k : Int} {N : Hp → Prop} (h : H p = some (.lst xs)) (h0 : 0 ≤ k) (h1 : k < xs.length) (q : N (upd H p (.lst (xs.set k.toNat y)))) : rSetL (.ref p) (.int k) y H N :=
  ⟨p, xs, k, k.toNat, rfl, rfl, h, by unfold ixN; rw [if_pos h0, if_pos h1], q⟩
end
end G
namespace G
open PySem PySem.Spec PyProof.Rows L2
/-! ## comprehensions whose parts leave the heap as it is -/
section
variable {σ : L2.St} {vs : List Nat} {H1 : Hp} {D : Addr} {Qd : Hp → Prop} {te : TE} {tt : TT} {k : Nat} {f : Nat → V} {K : PySem.W.Frag} {a : Addr} {xs : List V}
theorem tYes_on {σ2 : L2.St} {H : Hp} {A B : Hp → Prop} (h : A H) : tYes σ2 H fun b H3 => if b = true then A H3 else B H3 := by
  show (if true = true then A H else B H)
  rw [if_pos (rfl : true = true)]
  exact h
/-- [e for x in range(..)] -/
theorem lc_mapR {lo : Int} {n : Nat} (f : Nat → V) (hw : ∀ v, wipe ((wipe σ vs).set k (some v)) vs = wipe σ vs) (hn : n ≤ sizeLine)
    (he : ∀ i, i < n → ∀ acc (Q : VK), Q (f i) (upd H1 D (.lst acc)) → te ((wipe σ vs).set k (some (.int (lo + i)))) (upd H1 D (.lst acc)) Q) (hd : Qd (upd H1 D (.lst ((List.range n).map f)))) :
    ∃ W : Nat → Nat → Hp → Prop, (∃ m, W 0 m (upd H1 D (.lst []))) ∧ ∀ i m H, W i m H →
      ((Itr lo n).stop i H ∧ Qd H) ∨ ((Itr lo n).go i H ∧ ∃ Nx : Hp → Prop, (∀ H', Nx H' → ∃ m', m' < m ∧ W (i + 1) m' H') ∧ ∀ x H', (Itr lo n).yld i H x H' → gName k x (wipe σ vs) H' fun σ2 H2 => wipe σ2 vs = wipe σ vs ∧ tYes σ2 H2 fun b H3 =>
        if b = true then te σ2 H3 fun y H4 => ∃ acc, H4 D = some (.lst acc) ∧ acc.length < sizeLine ∧ Nx (upd H4 D (.lst (acc ++ [y]))) else Nx H3) := by
  refine lc_range (Qd := Qd) (fun i H => H = upd H1 D (.lst ((List.range i).map f))) rfl ?_ fun H e => by rw [e]; exact hd
  rintro i H hi rfl
  refine ⟨hw _, tYes_on (he i hi _ _ ⟨_, upd_same, by rw [List.length_map, List.length_range]; omega, ?_⟩)⟩
  rw [upd_upd, List.range_succ, List.map_append]
  rfl
/-- [e for x in xs] -/
theorem lc_mapL {ys : List V} (hw : ∀ v, wipe ((wipe σ vs).set k (some v)) vs = wipe σ vs) (hl : ∀ acc, SqL K (upd H1 D (.lst acc)) a xs) (hn : xs.length ≤ sizeLine) (hy : ys.length = xs.length)
    (he : ∀ (i : Nat) (x y : V), xs[i]? = some x → ys[i]? = some y → ∀ acc (Q : VK), Q y (upd H1 D (.lst acc)) → te ((wipe σ vs).set k (some x)) (upd H1 D (.lst acc)) Q) (hd : Qd (upd H1 D (.lst ys))) :
    ∃ W : Nat → Nat → Hp → Prop, (∃ m, W 0 m (upd H1 D (.lst []))) ∧ ∀ i m H, W i m H →
      ((Itl K a).stop i H ∧ Qd H) ∨ ((Itl K a).go i H ∧ ∃ Nx : Hp → Prop, (∀ H', Nx H' → ∃ m', m' < m ∧ W (i + 1) m' H') ∧ ∀ x H', (Itl K a).yld i H x H' → gName k x (wipe σ vs) H' fun σ2 H2 => wipe σ2 vs = wipe σ vs ∧ tYes σ2 H2 fun b H3 =>
        if b = true then te σ2 H3 fun y H4 => ∃ acc, H4 D = some (.lst acc) ∧ acc.length < sizeLine ∧ Nx (upd H4 D (.lst (acc ++ [y]))) else Nx H3) := by
  refine lc_list (Qd := Qd) (xs := xs) (fun i H => H = upd H1 D (.lst (ys.take i))) (by rfl) (fun i H _ e => by rw [e]; exact hl _) ?_ fun H e => by
    rw [e, ← hy, List.take_length]
    exact hd
  rintro i x H hi rfl
  have hlt : i < ys.length := by rw [hy]; exact (List.getElem?_eq_some_iff.mp hi).1
  refine ⟨hw _, tYes_on (he i x ys[i] hi (List.getElem?_eq_getElem hlt) _ _ ⟨_, upd_same, by rw [List.length_take]; omega, ?_⟩)⟩
  rw [upd_upd, List.take_succ_eq_append_getElem hlt]
/-- [e for x in xs if t], ys the kept ones, by the places of what is kept -/
theorem lc_iffL {g : V → Option V} (hw : ∀ v, wipe ((wipe σ vs).set k (some v)) vs = wipe σ vs) (hl : ∀ acc, SqL K (upd H1 D (.lst acc)) a xs) (hn : xs.length ≤ sizeLine)
    (he : ∀ (i : Nat) (x : V), xs[i]? = some x → ∀ acc (N : Bool → Hp → Prop), ((g x).isSome = true → N true (upd H1 D (.lst acc))) → ((g x).isSome = false → N false (upd H1 D (.lst acc))) → tt ((wipe σ vs).set k (some x)) (upd H1 D (.lst acc)) N)
    (hy : ∀ (i : Nat) (x y : V), xs[i]? = some x → g x = some y → ∀ acc (Q : VK), Q y (upd H1 D (.lst acc)) → te ((wipe σ vs).set k (some x)) (upd H1 D (.lst acc)) Q) (hd : Qd (upd H1 D (.lst (xs.filterMap g)))) :
    ∃ W : Nat → Nat → Hp → Prop, (∃ m, W 0 m (upd H1 D (.lst []))) ∧ ∀ i m H, W i m H →
      ((Itl K a).stop i H ∧ Qd H) ∨ ((Itl K a).go i H ∧ ∃ Nx : Hp → Prop, (∀ H', Nx H' → ∃ m', m' < m ∧ W (i + 1) m' H') ∧ ∀ x H', (Itl K a).yld i H x H' → gName k x (wipe σ vs) H' fun σ2 H2 => wipe σ2 vs = wipe σ vs ∧ tt σ2 H2 fun b H3 =>
        if b = true then te σ2 H3 fun y H4 => ∃ acc, H4 D = some (.lst acc) ∧ acc.length < sizeLine ∧ Nx (upd H4 D (.lst (acc ++ [y]))) else Nx H3) := by
  refine lc_list (Qd := Qd) (xs := xs) (fun i H => H = upd H1 D (.lst ((xs.take i).filterMap g))) (by rfl) (fun i H _ e => by rw [e]; exact hl _) ?_ fun H e => by
    rw [e, List.take_length]
    exact hd
  rintro i x H hi rfl
  have hlt : i < xs.length := (List.getElem?_eq_some_iff.mp hi).1
  have ex : xs[i] = x := by rw [List.getElem?_eq_getElem hlt] at hi; exact Option.some.inj hi
  have small : ((xs.take i).filterMap g).length < sizeLine := Nat.lt_of_le_of_lt (List.length_filterMap_le _ _) (by rw [List.length_take]; omega)
  refine ⟨hw _, he i x hi _ _ (fun c => ?_) fun c => ?_⟩
  · obtain ⟨y, ey⟩ := Option.isSome_iff_exists.mp c
    rw [if_pos (rfl : true = true)]
    refine hy i x y hi ey _ _ ⟨_, upd_same, small, ?_⟩
    rw [upd_upd, List.take_succ_eq_append_getElem hlt, List.filterMap_append, ex]
    simp only [List.filterMap_cons, ey, List.filterMap_nil]
  · rw [if_neg Bool.false_ne_true, List.take_succ_eq_append_getElem hlt, List.filterMap_append, ex]
    have e0 : g x = none := by cases e : g x with
      | none => rfl
      | some y => rw [e] at c; cases c
    simp only [List.filterMap_cons, e0, List.filterMap_nil, List.append_nil]
end
/-- a statement, then the rest, by what holds between them -/
def tCut (t u : TS) : TS := fun D σ H => ∃ M : L2.St → Hp → Prop, t { D with nx := M } σ H ∧ ∀ σ' H', M σ' H' → u D σ' H'
theorem pss_cut {X : Cx} {st : Stmt} {rest : List Stmt} {t u : TS} (h1 : PS X st t) (h2 : PSs X rest u) : PSs X (st :: rest) (tCut t u) := by
  refine ⟨fun pins s σ H D I h => ?_⟩
  obtain ⟨M, a, b⟩ := h
  refine wpAny_execs_cons (thn (h1.run pins s σ H { D with nx := M } I a) fun f s1 q => ?_)
  cases f with
  | next => exact q.elim fun σ1 z => z.elim fun H1 y => h2.run pins s1 σ1 H1 D y.1 (b σ1 H1 y.2)
  | ret v => exact q
  | brk => exact q
  | cont => exact q
/-- what is wanted of a loop over J; of a comprehension -/
def ForW (J : It) (g : TG) (tb : TS) (D : Ends) (σ : L2.St) (H : Hp) : Prop := ∃ W : Nat → Nat → L2.St → Hp → Prop, (∃ m, W 0 m σ H) ∧ ∀ i m σ H, W i m σ H →
  (J.stop i H ∧ D.nx σ H) ∨ (J.go i H ∧ ∃ N : L2.St → Hp → Prop, (∀ σ' H', N σ' H' → ∃ m', m' < m ∧ W (i + 1) m' σ' H') ∧ ∀ x H', J.yld i H x H' → g x σ H' fun σ2 H2 => tb { D with nx := N, ct := N, bk := D.nx } σ2 H2)
def LcW (J : It) (g : TG) (tt : TT) (te : TE) (vs : List Nat) (σ : L2.St) (H1 : Hp) (Q : VK) : Prop := ∀ D, H1 D = none → ∃ W : Nat → Nat → Hp → Prop, (∃ m, W 0 m (upd H1 D (.lst []))) ∧ ∀ i m H, W i m H →
  (J.stop i H ∧ Q (.ref D) H) ∨ (J.go i H ∧ ∃ Nx : Hp → Prop, (∀ H', Nx H' → ∃ m', m' < m ∧ W (i + 1) m' H') ∧ ∀ x H', J.yld i H x H' → g x (wipe σ vs) H' fun σ2 H2 => wipe σ2 vs = wipe σ vs ∧ tt σ2 H2 fun b H3 =>
    if b = true then te σ2 H3 fun y H4 => ∃ acc, H4 D = some (.lst acc) ∧ acc.length < sizeLine ∧ Nx (upd H4 D (.lst (acc ++ [y]))) else Nx H3)
section
variable {σ : L2.St} {H : Hp} {Q : VK} {D : Ends} {wi : TI} {g : TG} {tb : TS} {tt : TT} {te : TE} {ta : TA} {vs : List Nat} {R : It → Hp → Prop} {K : PySem.W.Frag} {a b : Addr} {n m : Int}
theorem x_for : tFor wi g tb D σ H = wi σ H fun J H1 => ForW J g tb D σ H1 := rfl
theorem x_lc : tLc wi g tt te vs σ H Q = wi σ H fun J H1 => LcW J g tt te vs σ H1 Q := rfl
theorem x_rng1 : iRng1 ta σ H R = ta σ H fun vs H1 => ∃ j : Int, vs = [.int j] ∧ -(2 ^ 62) ≤ j ∧ j < 2 ^ 62 ∧ R (Itr 0 j.toNat) H1 := rfl
theorem x_rng2 : iRng2 ta σ H R = ta σ H fun vs H1 => ∃ i j : Int, vs = [.int i, .int j] ∧ (-(2 ^ 62) ≤ i ∧ i < 2 ^ 62 ∧ -(2 ^ 62) ≤ j ∧ j < 2 ^ 62) ∧ R (Itr i (j - i).toNat) H1 := rfl
theorem x_lst1 {tl : TE} : iList K tl σ H R = tl σ H fun x H1 => ∃ a, x = .ref a ∧ (∃ xs, SqL K H1 a xs) ∧ R (Itl K a) H1 := rfl
theorem x_one {P : Int → Prop} : (∃ j : Int, [V.int n] = [V.int j] ∧ P j) = P n := propext ⟨fun ⟨_, e, q⟩ => by cases e; exact q, fun q => ⟨n, rfl, q⟩⟩
theorem x_two {P : Int → Int → Prop} : (∃ i j : Int, [V.int n, V.int m] = [V.int i, V.int j] ∧ P i j) = P n m := propext ⟨fun ⟨_, _, e, q⟩ => by cases e; exact q, fun q => ⟨n, m, rfl, q⟩⟩
theorem x_adr {P : Addr → Prop} : (∃ b, V.ref a = V.ref b ∧ P b) = P a := propext ⟨fun ⟨_, e, q⟩ => by cases e; exact q, fun q => ⟨a, rfl, q⟩⟩
theorem x_sl {r : V → Option Int → Option Int → Hp → VK → Prop} {tl th : TO} : tSl r te tl th σ H Q = te σ H fun x H1 => tl σ H1 fun l H2 => th σ H2 fun u H3 => r x l u H3 Q := rfl
theorem x_np {QO : Option Int → Hp → Prop} : tNoPart σ H QO = QO none H := rfl
theorem x_pt {QO : Option Int → Hp → Prop} : tPart te σ H QO = te σ H fun x H1 => ∃ i, x = .int i ∧ QO (some i) H1 := rfl
theorem x_int {P : Int → Prop} : (∃ j : Int, V.int n = V.int j ∧ P j) = P n := propext ⟨fun ⟨_, e, q⟩ => by cases e; exact q, fun q => ⟨n, rfl, q⟩⟩
theorem x_bm {T : String} {r : V → List V → Hp → VK → Prop} : tBM K T r te ta σ H Q = te σ H fun x H1 => tyV K T x H1 ∧ ta σ H1 fun xs H2 => r x xs H2 Q := rfl
theorem x_bm0 {T : String} {r : V → List V → Hp → VK → Prop} : tBM0 K T r te σ H Q = te σ H fun x H1 => tyV K T x H1 ∧ r x [] H1 Q := rfl
theorem x_tupg {ts : TGs} {n : Nat} {v : V} {N : L2.St → Hp → Prop} : gTup K n ts v σ H N = ∃ a xs, v = .ref a ∧ SqT K H a xs ∧ xs.length = n ∧ ts xs σ H N := rfl
theorem x_consg {t : TG} {u : TGs} {v : V} {r : List V} {N : L2.St → Hp → Prop} : gCons t u (v :: r) σ H N = t v σ H fun σ' H' => u r σ' H' N := propext ⟨fun ⟨_, _, e, q⟩ => by cases e; exact q, fun q => ⟨v, r, rfl, q⟩⟩
theorem x_nilg {N : L2.St → Hp → Prop} : gNil [] σ H N = N σ H := propext ⟨fun z => z.2, fun z => ⟨rfl, z⟩⟩
theorem x_cut {t u : TS} : tCut t u D σ H = ∃ M : L2.St → Hp → Prop, t { D with nx := M } σ H ∧ ∀ σ' H', M σ' H' → u D σ' H' := rfl
theorem x_dget2 {td ty tx : TE} : tDGet2 td ty tx σ H Q = td σ H fun x H1 => ∃ a, x = .ref a ∧ IsD H1 a ∧ ty σ H1 fun y H2 => tx σ H2 fun z H3 => ∃ o, DGet H3 a y o ∧ Q (o.getD z) H3 := rfl
theorem x_dget1 {td ty : TE} : tDGet1 td ty σ H Q = td σ H fun x H1 => ∃ a, x = .ref a ∧ IsD H1 a ∧ ty σ H1 fun y H2 => ∃ o, DGet H2 a y o ∧ Q (o.getD .non) H2 := rfl
theorem x_dget {td ty : TE} : tDGet td ty σ H Q = td σ H fun x H1 => ty σ H1 fun y H2 => ∃ a v, x = .ref a ∧ DGet H2 a y (some v) ∧ Q v H2 := rfl
theorem x_din {td ty : TE} : tDIn ty td σ H Q = ty σ H fun y H1 => td σ H1 fun x H2 => ∃ a o, x = .ref a ∧ DGet H2 a y o ∧ Q (.bl o.isSome) H2 := rfl
theorem x_dni {td ty : TE} : tDNotIn ty td σ H Q = ty σ H fun y H1 => td σ H1 fun x H2 => ∃ a o, x = .ref a ∧ DGet H2 a y o ∧ Q (.bl (!o.isSome)) H2 := rfl
theorem x_dput {td ty tv : TE} : sDPut td ty tv D σ H = tv σ H fun v H1 => td σ H1 fun x H2 => ty σ H2 fun y H3 => ∃ a H4, x = .ref a ∧ DPut H3 a y v H4 ∧ D.nx σ H4 := rfl
theorem isD_k {kvs : List (Key × V)} (h : H a = some (.dK kvs)) : IsD H a := .inl ⟨kvs, .inl h⟩
theorem dget_i {kvs : List (Key × V)} {i : Int} (h : H a = some (.dK kvs)) : DGet H a (.int i) (valV kvs (.inl i : Key)) := DGet.k (k := .inl i) h
theorem dput_i {kvs : List (Key × V)} {i : Int} {v : V} (h : H a = some (.dK kvs)) (hl : kvs.length < sizeLine) : DPut H a (.int i) v (upd H a (.dK (putK kvs (.inl i : Key) v))) := DPut.k (k := .inl i) h hl
theorem forW_range {lo : Int} {n : Nat} (Pv : Nat → L2.St → Hp → Prop) (h0 : Pv 0 σ H) (hs : ∀ i σ H, i < n → Pv i σ H → g (.int (lo + i)) σ H fun σ2 H2 => tb { D with nx := Pv (i + 1), ct := Pv (i + 1), bk := D.nx } σ2 H2) (hd : ∀ σ H, Pv n σ H → D.nx σ H) : ForW (Itr lo n) g tb D σ H := for_range Pv h0 hs hd
theorem forW_list {xs : List V} (Pv : Nat → L2.St → Hp → Prop) (h0 : Pv 0 σ H) (hl : ∀ i σ H, i ≤ xs.length → Pv i σ H → SqL K H a xs) (hs : ∀ i x σ H, xs[i]? = some x → Pv i σ H → g x σ H fun σ2 H2 => tb { D with nx := Pv (i + 1), ct := Pv (i + 1), bk := D.nx } σ2 H2)
    (hd : ∀ σ H, Pv xs.length σ H → D.nx σ H) : ForW (Itl K a) g tb D σ H := for_list (xs := xs) Pv h0 hl hs hd
end
theorem x_yes {σ : L2.St} {H : Hp} {Q : Bool → Hp → Prop} : tYes σ H Q = Q true H := rfl
end G
namespace G
open PySem PySem.Spec PySem.Calls PyProof.Rows L2
/-! ### more shapes of loops, of targets -/
section
variable {σ : L2.St} {H : Hp} {Q : VK} {D : Ends} {g : TG} {tb : TS} {tl : TE} {ta : TA} {R : It → Hp → Prop} {K : PySem.W.Frag} {a : Addr}
theorem x_itup : iTup K tl σ H R = tl σ H fun x H1 => ∃ a, x = .ref a ∧ (∃ xs, SqT K H1 a xs) ∧ R (Itt K a) H1 := rfl
theorem x_rng3 : iRng3 ta σ H R = ta σ H fun vs H1 => ∃ (i j c : Int) (n : Nat), vs = [.int i, .int j, .int c] ∧ RgC i j c n ∧ R (Itc i c n) H1 := rfl
theorem x_three {x y z : Int} {P : Int → Int → Int → Nat → Prop} : (∃ (i j c : Int) (n : Nat), [V.int x, V.int y, V.int z] = [.int i, .int j, .int c] ∧ P i j c n) = ∃ n, P x y z n :=
  propext ⟨fun ⟨_, _, _, n, e, q⟩ => by cases e; exact ⟨n, q⟩, fun ⟨n, q⟩ => ⟨x, y, z, n, rfl, q⟩⟩
theorem x_lstg {ts : TGs} {n : Nat} {v : V} {N : L2.St → Hp → Prop} : gLst K n ts v σ H N = ∃ a xs, v = .ref a ∧ SqL K H a xs ∧ xs.length = n ∧ ts xs σ H N := rfl
theorem x_adrS {β : Type} {P : Addr → β → Prop} : (∃ b xs, V.ref a = V.ref b ∧ P b xs) = ∃ xs, P a xs := propext ⟨fun ⟨_, xs, e, q⟩ => by cases e; exact ⟨xs, q⟩, fun ⟨xs, q⟩ => ⟨a, xs, rfl, q⟩⟩
theorem forW_tup {xs : List V} (Pv : Nat → L2.St → Hp → Prop) (h0 : Pv 0 σ H) (hl : ∀ i σ H, i ≤ xs.length → Pv i σ H → SqT K H a xs) (hs : ∀ i x σ H, xs[i]? = some x → Pv i σ H → g x σ H fun σ2 H2 => tb { D with nx := Pv (i + 1), ct := Pv (i + 1), bk := D.nx } σ2 H2)
    (hd : ∀ σ H, Pv xs.length σ H → D.nx σ H) : ForW (Itt K a) g tb D σ H := for_tup (xs := xs) Pv h0 hl hs hd
theorem forW_step {lo c : Int} {n : Nat} (Pv : Nat → L2.St → Hp → Prop) (h0 : Pv 0 σ H) (hs : ∀ i σ H, i < n → Pv i σ H → g (.int (lo + (i : Nat) * c)) σ H fun σ2 H2 => tb { D with nx := Pv (i + 1), ct := Pv (i + 1), bk := D.nx } σ2 H2)
    (hd : ∀ σ H, Pv n σ H → D.nx σ H) : ForW (Itc lo c n) g tb D σ H := for_rangeC Pv h0 hs hd
end
end G
namespace G
open PySem PySem.Spec PySem.Calls PyProof.Rows L2 He
/-! ### is True, in, sorted, all -/
section
variable {X : Cx} {K : PySem.W.Frag}
def gIsB : R2 := fun x y H Q => ∃ b, y = .bl b ∧ Q (.bl (decide (x = .bl b))) H
def gNotB : R2 := fun x y H Q => ∃ b, y = .bl b ∧ Q (.bl (!decide (x = .bl b))) H
theorem relV_bl {x : V} {b : Bool} (r : RelV x (.bool b)) : x = .bl b := by
  cases x with
  | bl c => cases r; rfl
  | int i => obtain ⟨t, e⟩ := r; cases e
  | str i => obtain ⟨t, e⟩ := r; cases e
  | byt i => obtain ⟨t, e⟩ := r; cases e
  | flt i => obtain ⟨t, e⟩ := r; cases e
  | non => cases r
  | ref a => cases r
  | ty n => cases r
theorem relV_plain {x : V} {v : Value} {b : Bool} (r : RelV x v) : plainIs v (.bool b) = true := by
  cases x with
  | bl c => cases r; rfl
  | int i => obtain ⟨t, e⟩ := r; subst e; rfl
  | str i => obtain ⟨t, e⟩ := r; subst e; rfl
  | byt i => obtain ⟨t, e⟩ := r; subst e; rfl
  | flt i => obtain ⟨t, e⟩ := r; subst e; rfl
  | non => cases r; rfl
  | ref a => cases r; rfl
  | ty n => cases r; rfl
theorem op_gIsB : OpR X (compareOp .Is) gIsB := by
  intro pins s σ H x y v u Q I rx ry h
  obtain ⟨b, rfl, q⟩ := h
  cases (show u = Value.bool b from ry)
  by_cases e : v = .bool b
  · subst e
    have ex := relV_bl rx
    exact wpAny_is_self rfl ⟨.bl true, H, I, rfl, by rw [decide_eq_true ex] at q; exact q⟩
  · have ex : ¬ x = .bl b := fun z => e (by subst z; exact rx)
    exact wpAny_is_other (relV_plain rx) e ⟨.bl false, H, I, rfl, by rw [decide_eq_false ex] at q; exact q⟩
theorem op_gNotB : OpR X (compareOp .IsNot) gNotB := by
  intro pins s σ H x y v u Q I rx ry h
  obtain ⟨b, rfl, q⟩ := h
  cases (show u = Value.bool b from ry)
  by_cases e : v = .bool b
  · subst e
    have ex := relV_bl rx
    exact wpAny_isNot_self rfl ⟨.bl false, H, I, rfl, by rw [decide_eq_true ex] at q; exact q⟩
  · have ex : ¬ x = .bl b := fun z => e (by subst z; exact rx)
    exact wpAny_isNot_other (relV_plain rx) e ⟨.bl true, H, I, rfl, by rw [decide_eq_false ex] at q; exact q⟩
theorem op_inK (hK : X.K = K) : OpR X (compareOp .In) (rIn K false) := hK ▸ op_in_seq
theorem op_ninK (hK : X.K = K) : OpR X (compareOp .NotIn) (rIn K true) := hK ▸ op_notIn_seq
theorem call_sortedK (hK : X.K = K) : CallR X (.builtin "sorted") (rSortedI K) := hK ▸ cr_sortedI
theorem call_allK (hK : X.K = K) (hc : X.calm = true) : CallR X (.builtin "all") (rAll K) := hK ▸ cr_all hc
theorem call_anyK (hK : X.K = K) (hc : X.calm = true) : CallR X (.builtin "any") (rAny K) := hK ▸ cr_any hc
end
section
variable {σ : L2.St} {H : Hp} {Q : VK} {x : V} {b : Bool}
theorem r_isB : gIsB x (.bl b) H Q = Q (.bl (decide (x = .bl b))) H := propext ⟨fun ⟨_, e, q⟩ => by cases e; exact q, fun q => ⟨b, rfl, q⟩⟩
theorem r_notB : gNotB x (.bl b) H Q = Q (.bl (!decide (x = .bl b))) H := propext ⟨fun ⟨_, e, q⟩ => by cases e; exact q, fun q => ⟨b, rfl, q⟩⟩
theorem x_dpop2 {td ty tx : TE} : tDPop2 td ty tx σ H Q = td σ H fun x H1 => ∃ a, x = .ref a ∧ IsD H1 a ∧ ty σ H1 fun y H2 => tx σ H2 fun z H3 => ∃ kvs k, H3 a = some (.dK kvs) ∧ y = kV k ∧
  (∀ v, valV kvs k = some v → Q v (upd H3 a (.dK (dropK kvs k)))) ∧ (valV kvs k = none → Q z H3) := rfl
theorem r_isi {v : V} {T t : String} (e : tyOf v H = some t) (q : Q (.bl (isB t T)) H) (hT : T ∈ (["int", "bool", "str", "list", "tuple", "dict"] : List String) := by decide) : gIsi [v, .ty T] H Q := ⟨hT, t, e, q⟩
theorem r_isiL {a : Addr} {xs : List V} (h : H a = some (.lst xs)) (q : Q (.bl true) H) : gIsi [.ref a, .ty "list"] H Q := r_isi (t := "list") (by show tyO (H a) = _; rw [h]; rfl) q
theorem r_isiT {a : Addr} {xs : List V} (h : H a = some (.tup xs)) (q : Q (.bl true) H) : gIsi [.ref a, .ty "tuple"] H Q := r_isi (t := "tuple") (by show tyO (H a) = _; rw [h]; rfl) q
theorem r_isiII {n : Int} : gIsi [.int n, .ty "int"] H Q = Q (.bl true) H := propext ⟨fun ⟨_, t, e, q⟩ => by cases e; exact q, fun q => ⟨by decide, _, rfl, q⟩⟩
theorem r_isiBB : gIsi [.bl b, .ty "bool"] H Q = Q (.bl true) H := propext ⟨fun ⟨_, t, e, q⟩ => by cases e; exact q, fun q => ⟨by decide, _, rfl, q⟩⟩
theorem r_isiIB {n : Int} : gIsi [.int n, .ty "bool"] H Q = Q (.bl false) H := propext ⟨fun ⟨_, t, e, q⟩ => by cases e; exact q, fun q => ⟨by decide, _, rfl, q⟩⟩
theorem r_isiSS {z : Str} : gIsi [.str z, .ty "str"] H Q = Q (.bl true) H := propext ⟨fun ⟨_, t, e, q⟩ => by cases e; exact q, fun q => ⟨by decide, _, rfl, q⟩⟩
theorem r_neNS {K : PySem.W.Frag} {z : Str} : gNe K .non (.str z) H Q = Q (.bl true) H := rfl
theorem r_neSN {K : PySem.W.Frag} {z : Str} : gNe K (.str z) .non H Q = Q (.bl true) H := rfl
theorem r_neNN {K : PySem.W.Frag} : gNe K .non .non H Q = Q (.bl false) H := rfl
theorem r_eqNS {K : PySem.W.Frag} {z : Str} : gEq K .non (.str z) H Q = Q (.bl false) H := rfl
theorem r_eqSN {K : PySem.W.Frag} {z : Str} : gEq K (.str z) .non H Q = Q (.bl false) H := rfl
theorem r_eqNN {K : PySem.W.Frag} : gEq K .non .non H Q = Q (.bl true) H := rfl
theorem r_eqIS {K : PySem.W.Frag} {n : Int} {z : Str} : gEq K (.int n) (.str z) H Q = Q (.bl false) H := rfl
theorem r_neIS {K : PySem.W.Frag} {n : Int} {z : Str} : gNe K (.int n) (.str z) H Q = Q (.bl true) H := rfl
theorem r_neSI {K : PySem.W.Frag} {n : Int} {z : Str} : gNe K (.str z) (.int n) H Q = Q (.bl true) H := rfl
theorem r_neBS {K : PySem.W.Frag} {z : Str} : gNe K (.bl b) (.str z) H Q = Q (.bl true) H := rfl
theorem r_eqBB {K : PySem.W.Frag} {c : Bool} : gEq K (.bl b) (.bl c) H Q = Q (.bl (b == c)) H := rfl
theorem r_neBB {K : PySem.W.Frag} {c : Bool} : gNe K (.bl b) (.bl c) H Q = Q (.bl (!(b == c))) H := rfl
theorem r_ixL {K : PySem.W.Frag} {a : Addr} {xs : List V} {i : Nat} {v : V} (h : H a = some (.lst xs)) (e : xs[i]? = some v) (q : Q v H) : rIx K (.ref a) (.int (i : Int)) H Q := .inl ⟨_, _, _, _, rfl, rfl, .of h, by
  have hl := (List.getElem?_eq_some_iff.mp e).1
  unfold atI ixN
  rw [if_pos (by omega), if_pos (by omega), Int.toNat_natCast]
  exact e, q⟩
end
/-! ### isinstance(e, (C, D, ..)) of a caught error -/
def tIsQ (K : PySem.W.Frag) (x : V) (cs : List V) (H : Hp) (Q : VK) : Prop := cs.length ≤ sizeLine ∧ ∃ a D us b, x = .ref a ∧ H a = some (ExA (.ref D) a) ∧ ExcC K D ∧ Paired ClsV cs us ∧ PySem.W.kitAny K (.ref D) us = some b ∧ Q (.bl b) H
theorem x_isT {K : PySem.W.Frag} {σ : L2.St} {H : Hp} {Q : VK} {ta : TE} {tc : TA} : tIsT K ta tc σ H Q = ta σ H fun x H1 => tc σ H1 fun cs H2 => tIsQ K x cs H2 Q := rfl
inductive NamesK (K : PySem.W.Frag) : List V → List Str → Prop where
  | nil : NamesK K [] []
  | cons (c : Str) {cs : List V} {ns : List Str} (t : NamesK K cs ns) : NamesK K (.ref (ga K c) :: cs) (c :: ns)
theorem NamesK.len {K : PySem.W.Frag} {cs : List V} {ns : List Str} (h : NamesK K cs ns) : cs.length = ns.length := by
  induction h with
  | nil => rfl
  | cons c t ih => exact congrArg (· + 1) ih
theorem NamesK.pair {K : PySem.W.Frag} {cs : List V} {ns : List Str} (h : NamesK K cs ns) : Paired ClsV cs (ns.map fun c => Value.ref (ga K c)) := by
  induction h with
  | nil => exact .nil
  | cons c t ih => exact .cons (.own _) ih
theorem Told.anyOf {fa : List Fa} {fn : List DefD} {xl : XL} {K : PySem.W.Frag} {mg : Str → Option Value} (T : Told fa fn xl K mg) {d : Str} (hd : d ∈ xl.ex) : ∀ ns : List Str, (∀ c ∈ ns, c ∈ xl.ex) → PySem.W.kitAny K (.ref (ga K d)) (ns.map fun c => Value.ref (ga K c)) = some (ns.any (under d))
  | [], _ => rfl
  | c :: r, h => by
    show (match PySem.W.kitOne K (.ref (ga K d)) (.ref (ga K c)) with
      | some true => some true
      | some false => PySem.W.kitAny K (.ref (ga K d)) (r.map fun c => Value.ref (ga K c))
      | none => none) = some (under d c || r.any (under d))
    rw [((T.err hd).2.2 c (h c (List.mem_cons_self))).1]
    cases under d c with
    | true => rfl
    | false => exact T.anyOf hd r fun c hc => h c (List.mem_cons_of_mem _ hc)
theorem Told.isA {fa : List Fa} {fn : List DefD} {xl : XL} {K : PySem.W.Frag} {mg : Str → Option Value} (T : Told fa fn xl K mg) {d : Str} {a : Addr} {H : Hp} {Q : VK} {cs : List V} {ns : List Str} {b : Bool} (ha : H a = some (ExA (.ref (ga K d)) a)) (n : NamesK K cs ns)
    (hd : d ∈ xl.ex) (hc : (ns.all fun c => decide (c ∈ xl.ex)) = true) (hl : ns.length ≤ 1000) (e : ns.any (under d) = b) (q : Q (.bl b) H) : tIsQ K (.ref a) cs H Q :=
  ⟨by rw [n.len, sizeLine_eq]; omega, a, _, _, b, rfl, ha, (T.err hd).1, n.pair, (T.anyOf hd ns fun c h => of_decide_eq_true (List.all_eq_true.mp hc c h)).trans (congrArg some e), q⟩
end G
namespace G
open PySem PySem.Spec PySem.Calls PyProof.Rows L2 He
/-! ### == of data of some depth -/
def ShK (k : Nat) (d : PyData) : Prop := d.canLay0 = true ∧ d.depth ≤ k
theorem ShK.up {k n : Nat} {d : PyData} (h : ShK k d) (e : k ≤ n) : ShK n d := ⟨h.1, Nat.le_trans h.2 e⟩
theorem ShK.all {k : Nat} : ∀ {ds : List PyData}, (∀ z ∈ ds, ShK k z) → PyData.canLayAll0 ds = true ∧ PyData.depthAll ds ≤ k
  | [], _ => ⟨by simp [PyData.canLayAll0], by simp [PyData.depthAll]⟩
  | z :: zs, h => by
    have h1 := ShK.all (ds := zs) fun y hy => h y (List.mem_cons_of_mem _ hy)
    have h2 := h z (List.mem_cons_self)
    refine ⟨by simp [PyData.canLayAll0, h2.1, h1.1], ?_⟩
    have a := h2.2
    have b := h1.2
    simp only [PyData.depthAll]
    omega
theorem ShK.lst {k : Nat} {ds : List PyData} (h : ∀ z ∈ ds, ShK k z) : ShK (k + 1) (.list ds) := by
  have a := ShK.all h
  refine ⟨by simp [PyData.canLay0, a.1], ?_⟩
  have b := a.2
  simp only [PyData.depth]
  omega
theorem ShK.tup {k : Nat} {ds : List PyData} (h : ∀ z ∈ ds, ShK k z) : ShK (k + 1) (.tuple ds) := by
  have a := ShK.all h
  refine ⟨by simp [PyData.canLay0, a.1], ?_⟩
  have b := a.2
  simp only [PyData.depth]
  omega
theorem ShK.ok {k : Nat} {d : PyData} (h : ShK k d) (e : k ≤ 64) : SeqAt.shaped d = true := by
  show (d.canLay0 && decide (d.depth ≤ 64)) = true
  rw [h.1, decide_eq_true (Nat.le_trans h.2 e)]
  rfl
/-- flat things as data -/
def toD : V → PyData
  | .bl b => .bool b
  | .int i => .int i
  | _ => .none
def flatI : V → Bool
  | .non => true
  | .bl _ => true
  | .int _ => true
  | _ => false
theorem toD_sh {v : V} : ShK 0 (toD v) := by cases v <;> exact ⟨by simp [toD, PyData.canLay0], by simp [toD, PyData.depth]⟩
theorem toD_dp {K : PySem.W.Frag} {H : Hp} {v : V} (h : flatI v = true) : Dp K H v (toD v) := by
  cases v <;> first | (cases h; done) | skip
  · exact .non
  · exact .bl _
  · exact .int _
theorem toDs_dp {K : PySem.W.Frag} {H : Hp} : ∀ {xs : List V}, (∀ x ∈ xs, flatI x = true) → DpAll K H xs (xs.map toD)
  | [], _ => .nil
  | _ :: _, h => .cons (toD_dp (h _ (List.mem_cons_self))) (toDs_dp fun y hy => h y (List.mem_cons_of_mem _ hy))
theorem toDs_sh {xs : List V} : ∀ z ∈ xs.map toD, ShK 0 z := fun z h => by
  obtain ⟨v, -, e⟩ := List.mem_map.mp h
  subst e
  exact toD_sh
/-- lists of flat things; of tuples of flat things -/
theorem dp_flat {K : PySem.W.Frag} {H : Hp} {a : Addr} {xs : List V} (h : H a = some (.lst xs)) (f : ∀ x ∈ xs, flatI x = true) : Dp K H (.ref a) (.list (xs.map toD)) := .lst (.of h) (toDs_dp f)
theorem sh_flat {xs : List V} : SeqAt.shaped (.list (xs.map toD)) = true := (ShK.lst toDs_sh).ok (by decide)
inductive TupAll (H : Hp) : List V → List (List V) → Prop where
  | nil : TupAll H [] []
  | cons {tp : Addr} {xs : List V} {rs : List V} {yss : List (List V)} (h : H tp = some (.tup xs)) (f : ∀ x ∈ xs, flatI x = true) (t : TupAll H rs yss) : TupAll H (.ref tp :: rs) (xs :: yss)
def tupD (yss : List (List V)) : PyData := .list (yss.map fun xs => .tuple (xs.map toD))
theorem TupAll.dp {K : PySem.W.Frag} {H : Hp} : ∀ {rs : List V} {yss : List (List V)}, TupAll H rs yss → DpAll K H rs (yss.map fun xs => .tuple (xs.map toD))
  | _, _, .nil => .nil
  | _, _, .cons h f t => .cons (.tup (.inl (.inl h)) (toDs_dp f)) t.dp
theorem TupAll.same {H H' : Hp} {rs : List V} {yss : List (List V)} (h : TupAll H rs yss) (s : Same H H') : TupAll H' rs yss := by
  induction h with
  | nil => exact .nil
  | cons h f t ih => exact .cons (s _ _ h) f ih
theorem TupAll.snoc {H : Hp} {rs : List V} {yss : List (List V)} {tp : Addr} {xs : List V} (h : TupAll H rs yss) (e : H tp = some (.tup xs)) (f : ∀ x ∈ xs, flatI x = true) : TupAll H (rs ++ [.ref tp]) (yss ++ [xs]) := by
  induction h with
  | nil => exact .cons e f .nil
  | cons h f' t ih => exact .cons h f' ih
theorem TupAll.put {H : Hp} {rs : List V} {yss : List (List V)} {D : Addr} {o o' : HO} (h : TupAll H rs yss) (e : H D = some o) (n : ∀ xs, o ≠ .tup xs) : TupAll (upd H D o') rs yss := by
  induction h with
  | nil => exact .nil
  | cons h f t ih => exact .cons (by rw [upd_ne (ne_of h e fun z => n _ z.symm)]; exact h) f ih
theorem TupAll.len {H : Hp} {rs : List V} {yss : List (List V)} (h : TupAll H rs yss) : rs.length = yss.length := by
  induction h with
  | nil => rfl
  | cons h f t ih => exact congrArg (· + 1) ih
theorem TupAll.mem {H : Hp} {rs : List V} {yss : List (List V)} (h : TupAll H rs yss) : ∀ r ∈ rs, ∃ tp xs, r = .ref tp ∧ H tp = some (.tup xs) ∧ xs ∈ yss := by
  induction h with
  | nil => exact fun r h => (List.not_mem_nil h).elim
  | cons h f t ih =>
    intro r hr
    rcases List.mem_cons.mp hr with rfl | hr
    · exact ⟨_, _, rfl, h, List.mem_cons_self⟩
    · obtain ⟨tp, xs, e, h', m⟩ := ih r hr
      exact ⟨tp, xs, e, h', List.mem_cons_of_mem _ m⟩
theorem dp_tups {K : PySem.W.Frag} {H : Hp} {a : Addr} {rs : List V} {yss : List (List V)} (h : H a = some (.lst rs)) (t : TupAll H rs yss) : Dp K H (.ref a) (tupD yss) := .lst (.of h) t.dp
theorem sh_tups {yss : List (List V)} : SeqAt.shaped (tupD yss) = true := by
  refine (ShK.lst (k := 1) fun z h => ?_).ok (by decide)
  obtain ⟨xs, -, e⟩ := List.mem_map.mp h
  subst e
  exact ShK.tup toDs_sh
theorem shaped_refl {d : PyData} (s : SeqAt.shaped d = true) : PyData.eqv d d = true := PySem.SeqAt.eqv_refl d (SeqAt.canLay_of_shaped s)
theorem r_eqSame {K : PySem.W.Frag} {H : Hp} {Q : VK} {a b : Addr} {d : PyData} (h1 : Dp K H (.ref a) d) (h2 : Dp K H (.ref b) d) (s : SeqAt.shaped d = true) (q : Q (.bl true) H) : gEq K (.ref a) (.ref b) H Q := ⟨d, d, h1, h2, s, s, by rw [shaped_refl s]; exact q⟩
theorem r_neSame {K : PySem.W.Frag} {H : Hp} {Q : VK} {a b : Addr} {d : PyData} (h1 : Dp K H (.ref a) d) (h2 : Dp K H (.ref b) d) (s : SeqAt.shaped d = true) (q : Q (.bl false) H) : gNe K (.ref a) (.ref b) H Q := ⟨d, d, h1, h2, s, s, by rw [shaped_refl s]; exact q⟩
theorem getD_range {ts : List V} {d : V} : (List.range ts.length).map (fun i => ts.getD i d) = ts := by
  refine List.ext_getElem (by rw [List.length_map, List.length_range]) fun i h1 h2 => ?_
  rw [List.getElem_map, List.getElem_range, List.getD_eq_getElem?_getD, List.getElem?_eq_getElem h2]
  rfl
theorem getD_at {α : Type} {ts : List α} {d : α} {i : Nat} (h : i < ts.length) : ts[i]? = some (ts.getD i d) := by
  rw [List.getElem?_eq_getElem h, List.getD_eq_getElem?_getD, List.getElem?_eq_getElem h]
  rfl
theorem r_ixT {K : PySem.W.Frag} {H : Hp} {Q : VK} {a : Addr} {xs : List V} {i : Nat} {v : V} (h : H a = some (.tup xs)) (e : xs[i]? = some v) (q : Q v H) : rIx K (.ref a) (.int (i : Int)) H Q := .inr (.inl ⟨_, _, _, _, rfl, rfl, .inl (.inl h), by
  have hl := (List.getElem?_eq_some_iff.mp e).1
  unfold atI ixN
  rw [if_pos (by omega), if_pos (by omega), Int.toNat_natCast]
  exact e, q⟩)
theorem op_catTK {X : Cx} {K : PySem.W.Frag} (hK : X.K = K) : OpR X (binaryOp .Add) (rCatT K) := hK ▸ op_catT
theorem r_cat {K : PySem.W.Frag} {H : Hp} {Q : VK} {a b : Addr} {xs ys : List V} (h1 : H a = some (.tup xs)) (h2 : H b = some (.tup ys)) (nx : xs ≠ []) (ny : ys ≠ []) (hl : xs.length + ys.length ≤ sizeLine) (q : ∀ p, H p = none → Q (.ref p) (upd H p (.tup (xs ++ ys)))) : rCatT K (.ref a) (.ref b) H Q :=
  ⟨a, b, xs, ys, rfl, rfl, .inl (.inl h1), .inl (.inl h2), nx, hl, fun e => absurd e ny, fun _ => q⟩
/-- addresses that are in use -/
def Live (H : Hp) (L : List Addr) : Prop := L.Nodup ∧ ∀ c ∈ L, ∃ o, H c = some o
theorem Live.nil {H : Hp} : Live H [] := ⟨List.nodup_nil, fun c h => (List.not_mem_nil h).elim⟩
theorem Live.same {H H' : Hp} {L : List Addr} (h : Live H L) (s : Same H H') : Live H' L := ⟨h.1, fun c m => let ⟨o, e⟩ := h.2 c m; ⟨o, s _ _ e⟩⟩
theorem Live.cons {H H' : Hp} {L : List Addr} {x : Addr} {o : HO} (h : Live H L) (s : Same H H') (e : H x = none) (e' : H' x = some o) : Live H' (x :: L) := by
  refine ⟨List.nodup_cons.mpr ⟨fun m => ?_, h.1⟩, fun c m => ?_⟩
  · obtain ⟨o, g⟩ := h.2 x m
    rw [e] at g
    cases g
  · rcases List.mem_cons.mp m with rfl | m
    · exact ⟨_, e'⟩
    · obtain ⟨o, g⟩ := h.2 c m
      exact ⟨o, s _ _ g⟩
/-! ### enumerate -/
theorem x_enum {σ : L2.St} {H : Hp} {ta : TA} {R : It → Hp → Prop} {K : PySem.W.Frag} : iEnum K ta σ H R = ta σ H fun vs H1 => ∃ a xs, vs = [.ref a] ∧ SqL K H1 a xs ∧ R (Ite K a) H1 := rfl
end G
namespace G
open PySem PySem.Spec PySem.Calls PyProof.Rows L2 He
/-! ### while -/
def WhB (W : Nat → L2.St → Hp → Prop) (k : Nat) (tb : TS) (D : Ends) (σ : L2.St) (H : Hp) : Prop :=
  ∃ N : L2.St → Hp → Prop, (∀ σ' H', N σ' H' → ∃ m', m' < k ∧ W m' σ' H') ∧ tb { D with nx := N, ct := N, bk := D.nx } σ H
theorem whW {c : TT} {tb : TS} {D : Ends} {σ : L2.St} {H : Hp} (W : Nat → L2.St → Hp → Prop) (h0 : ∃ k, W k σ H) (hs : ∀ k σ H, W k σ H → c σ H fun b H1 => if b = true then WhB W k tb D σ H1 else D.nx σ H1) : tWhile c tb D σ H :=
  ⟨W, h0, hs⟩
theorem whB {W : Nat → L2.St → Hp → Prop} {k : Nat} {tb : TS} {D : Ends} {σ : L2.St} {H : Hp} (h : tb { D with nx := fun σ' H' => ∃ m', m' < k ∧ W m' σ' H', ct := fun σ' H' => ∃ m', m' < k ∧ W m' σ' H', bk := D.nx } σ H) : WhB W k tb D σ H :=
  ⟨_, fun _ _ q => q, h⟩
end G
namespace G
open PySem PySem.Spec PySem.Calls PyProof.Rows L2 He
theorem call_sumK {X : Cx} {K : PySem.W.Frag} (hK : X.K = K) (hc : X.calm = true) : CallR X (.builtin "sum") (rSum K) := hK ▸ cr_sum hc
theorem r_sumL {K : PySem.W.Frag} {H : Hp} {Q : VK} {a : Addr} {ns : List Int} (h : H a = some (.lst (ns.map V.int))) (q : Q (.int ns.sum) H) : rSum K [.ref a] H Q := ⟨a, ns, rfl, .of h, q⟩
/-- all of a list of truths is true -/
theorem r_allT {K : PySem.W.Frag} {H : Hp} {Q : VK} {a : Addr} {n : Nat} (h : H a = some (.lst (List.replicate n (.bl true)))) (q : Q (.bl true) H) : rAll K [.ref a] H Q := by
  refine ⟨a, List.replicate n true, rfl, .of (by rw [List.map_replicate]; exact h), ?_⟩
  rw [show (List.replicate n true).all id = true from List.all_eq_true.mpr fun b hb => (List.mem_replicate.mp hb).2]
  exact q
/-- [True for .. in xs] -/
theorem lc_trueL {σ : L2.St} {vs : List Nat} {H1 : Hp} {D : Addr} {Qd : Hp → Prop} {te : TE} {k : Nat} {K : PySem.W.Frag} {a : Addr} {xs : List V} (hw : ∀ v, wipe ((wipe σ vs).set k (some v)) vs = wipe σ vs) (hl : ∀ acc, SqL K (upd H1 D (.lst acc)) a xs) (hn : xs.length ≤ sizeLine)
    (he : ∀ (i : Nat) (x : V), xs[i]? = some x → ∀ acc (Q : VK), Q (.bl true) (upd H1 D (.lst acc)) → te ((wipe σ vs).set k (some x)) (upd H1 D (.lst acc)) Q) (hd : Qd (upd H1 D (.lst (List.replicate xs.length (.bl true))))) :
    ∃ W : Nat → Nat → Hp → Prop, (∃ m, W 0 m (upd H1 D (.lst []))) ∧ ∀ i m H, W i m H →
      ((Itl K a).stop i H ∧ Qd H) ∨ ((Itl K a).go i H ∧ ∃ Nx : Hp → Prop, (∀ H', Nx H' → ∃ m', m' < m ∧ W (i + 1) m' H') ∧ ∀ x H', (Itl K a).yld i H x H' → gName k x (wipe σ vs) H' fun σ2 H2 => wipe σ2 vs = wipe σ vs ∧ tYes σ2 H2 fun b H3 =>
        if b = true then te σ2 H3 fun y H4 => ∃ acc, H4 D = some (.lst acc) ∧ acc.length < sizeLine ∧ Nx (upd H4 D (.lst (acc ++ [y]))) else Nx H3) :=
  lc_mapL (ys := List.replicate xs.length (.bl true)) hw hl hn (List.length_replicate) (fun i x y hx hy acc Q q => by
    have e := (List.mem_replicate.mp (List.mem_of_getElem? hy)).2
    subst e
    exact he i x hx acc Q q) hd
/-- whole numbers in a list -/
theorem ints_mem {ns : List Int} {i : Nat} {x : V} (h : (ns.map V.int)[i]? = some x) : ∃ n, x = .int n ∧ n ∈ ns := by
  obtain ⟨n, m, e⟩ := List.mem_map.mp (List.mem_of_getElem? h)
  exact ⟨n, e.symm, m⟩
theorem ints_flat {ns : List Int} : ∀ x ∈ ns.map V.int, flatI x = true := fun x h => by
  obtain ⟨i, -, e⟩ := List.mem_map.mp h
  subst e
  rfl
theorem dp_ints {K : PySem.W.Frag} {H : Hp} {a : Addr} {ns : List Int} (h : H a = some (.lst (ns.map V.int))) : Dp K H (.ref a) (.list ((ns.map V.int).map toD)) := dp_flat h ints_flat
/-- two lists of the same whole numbers -/
theorem r_eqInts {K : PySem.W.Frag} {H : Hp} {Q : VK} {a b : Addr} {ns : List Int} (h1 : H a = some (.lst (ns.map V.int))) (h2 : H b = some (.lst (ns.map V.int))) (q : Q (.bl true) H) : gEq K (.ref a) (.ref b) H Q := r_eqSame (dp_ints h1) (dp_ints h2) sh_flat q
theorem r_neInts {K : PySem.W.Frag} {H : Hp} {Q : VK} {a b : Addr} {ns : List Int} (h1 : H a = some (.lst (ns.map V.int))) (h2 : H b = some (.lst (ns.map V.int))) (q : Q (.bl false) H) : gNe K (.ref a) (.ref b) H Q := r_neSame (dp_ints h1) (dp_ints h2) sh_flat q
/-- [text, thing]: what law's tries tell -/
inductive PlD : V → PyData → Prop where
  | non : PlD .non .none
  | bl (b : Bool) : PlD (.bl b) (.bool b)
  | int (i : Int) : PlD (.int i) (.int i)
  | str (z : Str) (h : PyData.strOk z = true) : PlD (.str z) (.str z)
theorem PlD.dp {K : PySem.W.Frag} {H : Hp} {v : V} {d : PyData} (h : PlD v d) : Dp K H v d := by
  cases h with
  | non => exact .non
  | bl b => exact .bl b
  | int i => exact .int i
  | str z h => exact .str z
theorem PlD.sh {v : V} {d : PyData} (h : PlD v d) : ShK 0 d := by
  cases h with
  | str z h => exact ⟨by simp only [PyData.canLay0]; exact h, by simp [PyData.depth]⟩
  | _ => exact ⟨by simp [PyData.canLay0], by simp [PyData.depth]⟩
inductive PlAll : List V → List PyData → Prop where
  | nil : PlAll [] []
  | cons {v : V} {d : PyData} {vs : List V} {ds : List PyData} (h : PlD v d) (t : PlAll vs ds) : PlAll (v :: vs) (d :: ds)
theorem PlAll.dp {K : PySem.W.Frag} {H : Hp} {vs : List V} {ds : List PyData} (h : PlAll vs ds) : DpAll K H vs ds := by
  induction h with
  | nil => exact .nil
  | cons h t ih => exact .cons h.dp ih
theorem PlAll.sh {vs : List V} {ds : List PyData} (h : PlAll vs ds) : ∀ z ∈ ds, ShK 0 z := by
  induction h with
  | nil => exact fun z h => (List.not_mem_nil h).elim
  | cons h t ih =>
    intro z m
    rcases List.mem_cons.mp m with rfl | m
    · exact h.sh
    · exact ih z m
/-- == of lists of plain things -/
theorem r_eqPl {K : PySem.W.Frag} {H : Hp} {Q : VK} {a b : Addr} {xs ys : List V} {ds es : List PyData} (h1 : H a = some (.lst xs)) (h2 : H b = some (.lst ys)) (p1 : PlAll xs ds) (p2 : PlAll ys es) (q : Q (.bl (PyData.eqv (.list ds) (.list es))) H) : gEq K (.ref a) (.ref b) H Q :=
  ⟨_, _, .lst (.of h1) p1.dp, .lst (.of h2) p2.dp, (ShK.lst p1.sh).ok (by decide), (ShK.lst p2.sh).ok (by decide), q⟩
theorem r_nePl {K : PySem.W.Frag} {H : Hp} {Q : VK} {a b : Addr} {xs ys : List V} {ds es : List PyData} (h1 : H a = some (.lst xs)) (h2 : H b = some (.lst ys)) (p1 : PlAll xs ds) (p2 : PlAll ys es) (q : Q (.bl (!PyData.eqv (.list ds) (.list es))) H) : gNe K (.ref a) (.ref b) H Q :=
  ⟨_, _, .lst (.of h1) p1.dp, .lst (.of h2) p2.dp, (ShK.lst p1.sh).ok (by decide), (ShK.lst p2.sh).ok (by decide), q⟩
theorem r_eqPlT {K : PySem.W.Frag} {H : Hp} {Q : VK} {a b : Addr} {xs : List V} {ds : List PyData} (h1 : H a = some (.lst xs)) (h2 : H b = some (.lst xs)) (p : PlAll xs ds) (q : Q (.bl true) H) : gEq K (.ref a) (.ref b) H Q :=
  r_eqSame (.lst (.of h1) p.dp) (.lst (.of h2) p.dp) ((ShK.lst p.sh).ok (by decide)) q
theorem r_nePlT {K : PySem.W.Frag} {H : Hp} {Q : VK} {a b : Addr} {xs : List V} {ds : List PyData} (h1 : H a = some (.lst xs)) (h2 : H b = some (.lst xs)) (p : PlAll xs ds) (q : Q (.bl false) H) : gNe K (.ref a) (.ref b) H Q :=
  r_neSame (.lst (.of h1) p.dp) (.lst (.of h2) p.dp) ((ShK.lst p.sh).ok (by decide)) q
end G
namespace G
open PySem PySem.Spec PySem.Calls PyProof.Rows L2 He
/-! ### isinstance of an own class's instance; in a written tuple -/
theorem call_isiK {X : Cx} {K : PySem.W.Frag} (hK : X.K = K) : CallR X (.builtin "isinstance") (rIsi K) := hK ▸ call_isi
theorem r_isiIns {K : PySem.W.Frag} {H : Hp} {Q : VK} {a C dx : Addr} {fs : List (Str × V)} (h : H a = some (.ins C dx fs)) (c : Cls K C) (n : ClN K C) (q : Q (.bl false) H) : rIsi K [.ref a, .ty "str"] H Q :=
  ⟨_, _, _, _, _, rfl, .ty _, .base (TyOf.ins h c n.ha n.hn n.htk n.hm), n.no, q⟩
theorem r_isiOwn {K : PySem.W.Frag} {H : Hp} {Q : VK} {a C dx : Addr} {fs : List (Str × V)} (h : H a = some (.ins C dx fs)) (c : Cls K C) (n : ClN K C) (q : Q (.bl true) H) : rIsi K [.ref a, .ref C] H Q :=
  ⟨_, _, _, _, _, rfl, .own _, .base (TyOf.ins h c n.ha n.hn n.htk n.hm), (by show (if (Value.ref C == Value.ref C) = true then some true else _) = _; rw [if_pos (beq_self_eq_true _)]), q⟩
theorem r_isiPl {K : PySem.W.Frag} {H : Hp} {Q : VK} {x : V} {t n : String} (h : tyOf x H = some t) (hn : n ∈ (["int", "bool", "str", "list", "tuple", "dict"] : List String)) (q : Q (.bl (isB t n)) H) : rIsi K [x, .ty n] H Q :=
  ⟨_, _, _, _, _, rfl, .ty _, tyOf_ok h, kit_ty (isB_all t (tyOf_in h) _ hn), q⟩
/-- x in a written tuple: flat things; data -/
def rInG (K : PySem.W.Frag) (neg : Bool) : R2 := fun x y H Q => rIn K neg x y H Q ∨ ∃ d ds, Dp K H x d ∧ Dp K H y (.tuple ds) ∧ SeqAt.shaped d = true ∧ SeqAt.shaped (.tuple ds) = true ∧ Q (.bl (if neg then !ds.any fun z => PyData.eqv z d else ds.any fun z => PyData.eqv z d)) H
theorem op_inTG {X : Cx} {K : PySem.W.Frag} (hK : X.K = K) (hu : X.A.units + 65 < cLine) : OpR X (compareOp .In) (rInG K false) := by
  subst hK
  intro pins s σ H x y v u Q I rx ry h
  rcases h with h | ⟨d, ds, hd, he, sd, se, q⟩
  · exact op_in_seq pins s σ H x y v u Q I rx ry h
  obtain ⟨as, r1⟩ := Dp.reads I d x v hd rx
  obtain ⟨bs, r2⟩ := Dp.reads I (.tuple ds) y u he ry
  exact SeqAt.in_tuple_reads r2 r1 (SeqAt.canLay_of_shaped se) (SeqAt.canLay_of_shaped sd) (room_in_shaped sd hu) ⟨.bl _, H, I, rfl, q⟩
theorem op_ninTG {X : Cx} {K : PySem.W.Frag} (hK : X.K = K) (hu : X.A.units + 65 < cLine) : OpR X (compareOp .NotIn) (rInG K true) := by
  subst hK
  intro pins s σ H x y v u Q I rx ry h
  rcases h with h | ⟨d, ds, hd, he, sd, se, q⟩
  · exact op_notIn_seq pins s σ H x y v u Q I rx ry h
  obtain ⟨as, r1⟩ := Dp.reads I d x v hd rx
  obtain ⟨bs, r2⟩ := Dp.reads I (.tuple ds) y u he ry
  exact SeqAt.notIn_tuple_reads r2 r1 (SeqAt.canLay_of_shaped se) (SeqAt.canLay_of_shaped sd) (room_in_shaped sd hu) ⟨.bl _, H, I, rfl, q⟩
end G
namespace G
open PySem PySem.Spec PySem.Calls PyProof.Rows L2 He
theorem hu65 {k : Nat} {A : Around} (r : Room k A) : A.units + 65 < cLine := by have := r.un; omega
theorem hu65N {k : Nat} {A : Around} (r : RoomN k A) : A.units + 65 < cLine := by have := r.un; omega
end G
namespace Pr
open PySem PySem.Spec PyProof.Rows L2 G
local macro_rules | `(tactic| walk_at "x") => `(tactic| try simp only [↓x_var0, ↓x_varS, ↓x_c, ↓x_op, ↓x_un, ↓x_cb, ↓x_nil, ↓x_cons, ↓x_test, ↓x_b, ↓x_ex, ↓x_and, ↓x_or, ↓x_not, ↓x_andV, ↓x_orV, ↓x_notV, ↓x_tif, ↓x_chain, ↓x_menu, ↓x_menuI, ↓x_lst, ↓x_tup, ↓x_dnew, ↓x_callW, ↓x_callN, ↓x_seq, ↓x_next, ↓x_ret, ↓x_retN, ↓x_drop, ↓x_ifS, ↓x_asg, ↓x_name, ↓x_raise, ↓x_fld, ↓x_setF, ↓x_meth, ↓x_make, ↓x_sub, ↓r_min, ↓r_max, ↓x_yes, ↓x_for, ↓x_cut, ↓x_lc, ↓x_rng1, ↓x_rng2, ↓x_lst1, ↓x_itup, ↓x_rng3, ↓x_three, ↓x_lstg, ↓x_tupg, ↓x_adrS, ↓x_one, ↓x_two, ↓x_adr, ↓x_sl, ↓x_np, ↓x_pt, ↓x_int, ↓x_bm, ↓x_bm0, ↓x_consg, ↓x_nilg, ↓x_dget2, ↓x_dget1, ↓x_dget, ↓x_din, ↓x_dni, ↓x_dput, ↓x_dpop2, ↓r_isB, ↓r_notB, ↓x_enum, wipe, List.map_cons, List.map_nil, ↓x_isT, ↓r_isiII, ↓r_isiBB, ↓r_isiIB, ↓r_isiSS, ↓r_neNS, ↓r_neSN, ↓r_neNN, ↓r_eqNS, ↓r_eqSN, ↓r_eqNN, ↓r_eqIS, ↓r_neIS, ↓r_neSI, ↓r_neBS, ↓r_eqBB, ↓r_neBB, ↓x_start, ↓x_K, ↓x_start0, ↓r_i0, ↓r_i, ↓r_u, ↓r_addI, ↓r_addS, ↓r_mulI, ↓r_mulS, ↓r_eqI, ↓r_neI, ↓r_eqS, ↓r_neS, ↓r_absI, ↓r_intI, ↓r_intB, List.length_cons, List.length_nil, List.replicate, List.set_cons_zero, List.set_cons_succ, decide_eq_true_eq, Bool.not_eq_true', decide_eq_false_iff_not, if_true, if_false, Bool.false_eq_true, Bool.true_eq_false, ite_true, ite_false, Bool.not_true, Bool.not_false, c_div, n_ten, c_pow, not_true_eq_false, not_false_eq_true, decide_true, decide_false, true_and, and_true, and_self, true_or, or_true, Int.reduceLT, Int.reduceLE, Int.reduceMul, Int.reduceAdd, Int.reduceSub, Int.reducePow, Int.reduceNeg, Int.reduceDiv, Int.reduceMod, Nat.reducePow, Int.reduceToNat, Int.reduceEq, Int.reduceNe, Nat.reduceLT, Nat.reduceLeDiff, Nat.reduceAdd])

/-! ## the text by places -/
def top (i : Nat) : Stmt := PySem.Challenge.pw_cellkeep_k07_hands.main.body.getD i (.Pass ⟨0, 0, 0, 0⟩)
abbrev s__wall : Stmt := top 0
abbrev s_is_whole : Stmt := top 20
abbrev s_place_word : Stmt := top 21
abbrev s_kind : Stmt := top 22
abbrev s_worth : Stmt := top 23
abbrev s_Hands___init__ : Stmt := inClass (top 26) 0
abbrev s_Hands_need : Stmt := inClass (top 26) 1
abbrev s_Hands_get : Stmt := inClass (top 26) 2
abbrev s_Hands_put : Stmt := inClass (top 26) 3
abbrev s_Hands_row : Stmt := inClass (top 26) 4
abbrev s_Book___init__ : Stmt := inClass (top 28) 0
abbrev s_Book_write : Stmt := inClass (top 28) 1
abbrev s_Book_rub : Stmt := inClass (top 28) 2
abbrev s_Book_has : Stmt := inClass (top 28) 3
abbrev s_Book_places : Stmt := inClass (top 28) 4
abbrev s_Book_clear : Stmt := inClass (top 28) 5
abbrev s_Lasts___init__ : Stmt := inClass (top 30) 0
abbrev s_Lasts_give : Stmt := inClass (top 30) 1
abbrev s_Lasts_need : Stmt := inClass (top 30) 2
abbrev s_Lasts_move : Stmt := inClass (top 30) 3
abbrev s_Lasts_say : Stmt := inClass (top 30) 4
abbrev s_Lasts_pending : Stmt := inClass (top 30) 5
abbrev s_Lasts_said : Stmt := inClass (top 30) 6
abbrev s_Weak___init__ : Stmt := inClass (top 32) 0
abbrev s_Weak_name : Stmt := inClass (top 32) 1
abbrev s_Weak_need : Stmt := inClass (top 32) 2
abbrev s_Weak_at : Stmt := inClass (top 32) 3
abbrev s_Weak_need_there : Stmt := inClass (top 32) 4
abbrev s_Weak_move : Stmt := inClass (top 32) 5
abbrev s_Weak_gone : Stmt := inClass (top 32) 6
abbrev s_Weak_names : Stmt := inClass (top 32) 7
abbrev s_Roots___init__ : Stmt := inClass (top 34) 0
abbrev s_Roots_starts : Stmt := inClass (top 34) 1
abbrev s__law_draw : Stmt := top 36
abbrev s__law_alone : Stmt := top 37
abbrev s__law_made : Stmt := top 38
abbrev s__law_put : Stmt := top 39
abbrev s__law_get : Stmt := top 40
abbrev s__law_word : Stmt := top 41
abbrev s__law_is_word : Stmt := top 42
abbrev s__law_same : Stmt := top 43
abbrev s__law_right : Stmt := top 44
abbrev s__law_starts_right : Stmt := top 45
abbrev s__law_rooted : Stmt := top 46
abbrev s__law_told_stays : Stmt := top 47
abbrev s_law : Stmt := top 48
def F_Hands (v0 : V) : List (Str × V) := [("kept", v0)]
theorem pi_Hands_kept {x  : V} : putF "kept" x ([] : List (Str × V)) = F_Hands  x := rfl
theorem pf_Hands_kept {x v0 : V} : putF "kept" x (F_Hands v0) = F_Hands x := rfl
def F_Book (v0 : V) : List (Str × V) := [("marks", v0)]
theorem pi_Book_marks {x  : V} : putF "marks" x ([] : List (Str × V)) = F_Book  x := rfl
theorem pf_Book_marks {x v0 : V} : putF "marks" x (F_Book v0) = F_Book x := rfl
def F_Lasts (v0 v1 : V) : List (Str × V) := [("waiting", v0), ("spoken", v1)]
theorem pi_Lasts_waiting {x  : V} : putF "waiting" x ([] : List (Str × V)) = ([("waiting", x)] : List (Str × V)) := rfl
theorem pf_Lasts_waiting {x v0 v1 : V} : putF "waiting" x (F_Lasts v0 v1) = F_Lasts x v1 := rfl
theorem pi_Lasts_spoken {x v0 : V} : putF "spoken" x ([("waiting", v0)] : List (Str × V)) = F_Lasts v0 x := rfl
theorem pf_Lasts_spoken {x v0 v1 : V} : putF "spoken" x (F_Lasts v0 v1) = F_Lasts v0 x := rfl
def F_Weak (v0 : V) : List (Str × V) := [("told", v0)]
theorem pi_Weak_told {x  : V} : putF "told" x ([] : List (Str × V)) = F_Weak  x := rfl
theorem pf_Weak_told {x v0 : V} : putF "told" x (F_Weak v0) = F_Weak x := rfl
def F_Roots (v0 v1 v2 v3 : V) : List (Str × V) := [("hands", v0), ("book", v1), ("weaks", v2), ("lasts", v3)]
theorem pi_Roots_hands {x  : V} : putF "hands" x ([] : List (Str × V)) = ([("hands", x)] : List (Str × V)) := rfl
theorem pf_Roots_hands {x v0 v1 v2 v3 : V} : putF "hands" x (F_Roots v0 v1 v2 v3) = F_Roots x v1 v2 v3 := rfl
theorem pi_Roots_book {x v0 : V} : putF "book" x ([("hands", v0)] : List (Str × V)) = ([("hands", v0), ("book", x)] : List (Str × V)) := rfl
theorem pf_Roots_book {x v0 v1 v2 v3 : V} : putF "book" x (F_Roots v0 v1 v2 v3) = F_Roots v0 x v2 v3 := rfl
theorem pi_Roots_weaks {x v0 v1 : V} : putF "weaks" x ([("hands", v0), ("book", v1)] : List (Str × V)) = ([("hands", v0), ("book", v1), ("weaks", x)] : List (Str × V)) := rfl
theorem pf_Roots_weaks {x v0 v1 v2 v3 : V} : putF "weaks" x (F_Roots v0 v1 v2 v3) = F_Roots v0 v1 x v3 := rfl
theorem pi_Roots_lasts {x v0 v1 v2 : V} : putF "lasts" x ([("hands", v0), ("book", v1), ("weaks", v2)] : List (Str × V)) = F_Roots v0 v1 v2 x := rfl
theorem pf_Roots_lasts {x v0 v1 v2 v3 : V} : putF "lasts" x (F_Roots v0 v1 v2 v3) = F_Roots v0 v1 v2 x := rfl
/-! ## the facts -/
def fa : List He.Fa := [.glo "KeepError", .glo "BadNumber", .glo "BadWord", .glo "BadCount", .glo "NoPlace", .glo "NoRoom", .glo "NoSlot", .glo "NoCell", .glo "NoHand", .glo "NothingHeld", .glo "NoName", .glo "NoDeed", .glo "NoImage", .glo "NoProgram", .glo "Hands", .glo "Book", .glo "Lasts", .glo "Weak", .glo "Roots", .glo "_wall", .glo "is_whole", .glo "place_word", .glo "kind", .glo "worth", .glo "_law_draw", .glo "_law_alone", .glo "_law_made", .glo "_law_put", .glo "_law_get", .glo "_law_word", .glo "_law_is_word", .glo "_law_same", .glo "_law_right", .glo "_law_starts_right", .glo "_law_rooted", .glo "_law_told_stays", .glo "law", .int "MOST_NUMBER" (1000000000000), .int "MOST_PLACE" (9999), .int "NOTHING" (-1), .int "MOST_HANDS" (6), .free "isinstance", .free "len", .free "abs", .free "range", .free "sorted", .free "all", .free "int", .free "bool", .free "str", .free "list", .free "ValueError", .exc "KeepError", .exc "BadNumber", .exc "BadWord", .exc "BadCount", .exc "NoPlace", .exc "NoRoom", .exc "NoSlot", .exc "NoCell", .exc "NoHand", .exc "NothingHeld", .exc "NoName", .exc "NoDeed", .exc "NoImage", .exc "NoProgram", .cls "Hands", .mkr "Hands", .meth "Hands" "need", .meth "Hands" "get", .meth "Hands" "put", .meth "Hands" "row", .noat "Hands" "kept", .cls "Book", .mkr "Book", .meth "Book" "write", .meth "Book" "rub", .meth "Book" "has", .meth "Book" "places", .meth "Book" "clear", .noat "Book" "marks", .cls "Lasts", .mkr "Lasts", .meth "Lasts" "give", .meth "Lasts" "need", .meth "Lasts" "move", .meth "Lasts" "say", .meth "Lasts" "pending", .meth "Lasts" "said", .noat "Lasts" "waiting", .noat "Lasts" "spoken", .cls "Weak", .mkr "Weak", .meth "Weak" "name", .meth "Weak" "need", .meth "Weak" "at", .meth "Weak" "need_there", .meth "Weak" "move", .meth "Weak" "gone", .meth "Weak" "names", .noat "Weak" "told", .cls "Roots", .mkr "Roots", .meth "Roots" "starts", .noat "Roots" "hands", .noat "Roots" "book", .noat "Roots" "weaks", .noat "Roots" "lasts"]
def d__wall : He.DefD := ⟨("_wall", none), "_wall", "_wall", defArgs s__wall, defBody s__wall, defScope s__wall, [], []⟩
def d_is_whole : He.DefD := ⟨("is_whole", none), "is_whole", "is_whole", defArgs s_is_whole, defBody s_is_whole, defScope s_is_whole, [], []⟩
def d_place_word : He.DefD := ⟨("place_word", none), "place_word", "place_word", defArgs s_place_word, defBody s_place_word, defScope s_place_word, [], []⟩
def d_kind : He.DefD := ⟨("kind", none), "kind", "kind", defArgs s_kind, defBody s_kind, defScope s_kind, [], []⟩
def d_worth : He.DefD := ⟨("worth", none), "worth", "worth", defArgs s_worth, defBody s_worth, defScope s_worth, [], []⟩
def d_Hands___init__ : He.DefD := ⟨("Hands", some "__init__"), "__init__", "Hands.__init__", defArgs s_Hands___init__, defBody s_Hands___init__, defScope s_Hands___init__, [], []⟩
def d_Hands_need : He.DefD := ⟨("Hands", some "need"), "need", "Hands.need", defArgs s_Hands_need, defBody s_Hands_need, defScope s_Hands_need, [], []⟩
def d_Hands_get : He.DefD := ⟨("Hands", some "get"), "get", "Hands.get", defArgs s_Hands_get, defBody s_Hands_get, defScope s_Hands_get, [], []⟩
def d_Hands_put : He.DefD := ⟨("Hands", some "put"), "put", "Hands.put", defArgs s_Hands_put, defBody s_Hands_put, defScope s_Hands_put, [], []⟩
def d_Hands_row : He.DefD := ⟨("Hands", some "row"), "row", "Hands.row", defArgs s_Hands_row, defBody s_Hands_row, defScope s_Hands_row, [], []⟩
def d_Book___init__ : He.DefD := ⟨("Book", some "__init__"), "__init__", "Book.__init__", defArgs s_Book___init__, defBody s_Book___init__, defScope s_Book___init__, [], []⟩
def d_Book_write : He.DefD := ⟨("Book", some "write"), "write", "Book.write", defArgs s_Book_write, defBody s_Book_write, defScope s_Book_write, [], []⟩
def d_Book_rub : He.DefD := ⟨("Book", some "rub"), "rub", "Book.rub", defArgs s_Book_rub, defBody s_Book_rub, defScope s_Book_rub, [], []⟩
def d_Book_has : He.DefD := ⟨("Book", some "has"), "has", "Book.has", defArgs s_Book_has, defBody s_Book_has, defScope s_Book_has, [], []⟩
def d_Book_places : He.DefD := ⟨("Book", some "places"), "places", "Book.places", defArgs s_Book_places, defBody s_Book_places, defScope s_Book_places, [], []⟩
def d_Book_clear : He.DefD := ⟨("Book", some "clear"), "clear", "Book.clear", defArgs s_Book_clear, defBody s_Book_clear, defScope s_Book_clear, [], []⟩
def d_Lasts___init__ : He.DefD := ⟨("Lasts", some "__init__"), "__init__", "Lasts.__init__", defArgs s_Lasts___init__, defBody s_Lasts___init__, defScope s_Lasts___init__, [], []⟩
def d_Lasts_give : He.DefD := ⟨("Lasts", some "give"), "give", "Lasts.give", defArgs s_Lasts_give, defBody s_Lasts_give, defScope s_Lasts_give, [], []⟩
def d_Lasts_need : He.DefD := ⟨("Lasts", some "need"), "need", "Lasts.need", defArgs s_Lasts_need, defBody s_Lasts_need, defScope s_Lasts_need, [], []⟩
def d_Lasts_move : He.DefD := ⟨("Lasts", some "move"), "move", "Lasts.move", defArgs s_Lasts_move, defBody s_Lasts_move, defScope s_Lasts_move, [], []⟩
def d_Lasts_say : He.DefD := ⟨("Lasts", some "say"), "say", "Lasts.say", defArgs s_Lasts_say, defBody s_Lasts_say, defScope s_Lasts_say, [], []⟩
def d_Lasts_pending : He.DefD := ⟨("Lasts", some "pending"), "pending", "Lasts.pending", defArgs s_Lasts_pending, defBody s_Lasts_pending, defScope s_Lasts_pending, [], []⟩
def d_Lasts_said : He.DefD := ⟨("Lasts", some "said"), "said", "Lasts.said", defArgs s_Lasts_said, defBody s_Lasts_said, defScope s_Lasts_said, [], []⟩
def d_Weak___init__ : He.DefD := ⟨("Weak", some "__init__"), "__init__", "Weak.__init__", defArgs s_Weak___init__, defBody s_Weak___init__, defScope s_Weak___init__, [], []⟩
def d_Weak_name : He.DefD := ⟨("Weak", some "name"), "name", "Weak.name", defArgs s_Weak_name, defBody s_Weak_name, defScope s_Weak_name, [], []⟩
def d_Weak_need : He.DefD := ⟨("Weak", some "need"), "need", "Weak.need", defArgs s_Weak_need, defBody s_Weak_need, defScope s_Weak_need, [], []⟩
def d_Weak_at : He.DefD := ⟨("Weak", some "at"), "at", "Weak.at", defArgs s_Weak_at, defBody s_Weak_at, defScope s_Weak_at, [], []⟩
def d_Weak_need_there : He.DefD := ⟨("Weak", some "need_there"), "need_there", "Weak.need_there", defArgs s_Weak_need_there, defBody s_Weak_need_there, defScope s_Weak_need_there, [], []⟩
def d_Weak_move : He.DefD := ⟨("Weak", some "move"), "move", "Weak.move", defArgs s_Weak_move, defBody s_Weak_move, defScope s_Weak_move, [], []⟩
def d_Weak_gone : He.DefD := ⟨("Weak", some "gone"), "gone", "Weak.gone", defArgs s_Weak_gone, defBody s_Weak_gone, defScope s_Weak_gone, [], []⟩
def d_Weak_names : He.DefD := ⟨("Weak", some "names"), "names", "Weak.names", defArgs s_Weak_names, defBody s_Weak_names, defScope s_Weak_names, [], []⟩
def d_Roots___init__ : He.DefD := ⟨("Roots", some "__init__"), "__init__", "Roots.__init__", defArgs s_Roots___init__, defBody s_Roots___init__, defScope s_Roots___init__, [], []⟩
def d_Roots_starts : He.DefD := ⟨("Roots", some "starts"), "starts", "Roots.starts", defArgs s_Roots_starts, defBody s_Roots_starts, defScope s_Roots_starts, [], []⟩
def d__law_draw : He.DefD := ⟨("_law_draw", none), "_law_draw", "_law_draw", defArgs s__law_draw, defBody s__law_draw, defScope s__law_draw, [], []⟩
def d__law_alone : He.DefD := ⟨("_law_alone", none), "_law_alone", "_law_alone", defArgs s__law_alone, defBody s__law_alone, defScope s__law_alone, [], []⟩
def d__law_made : He.DefD := ⟨("_law_made", none), "_law_made", "_law_made", defArgs s__law_made, defBody s__law_made, defScope s__law_made, [], []⟩
def d__law_put : He.DefD := ⟨("_law_put", none), "_law_put", "_law_put", defArgs s__law_put, defBody s__law_put, defScope s__law_put, [], []⟩
def d__law_get : He.DefD := ⟨("_law_get", none), "_law_get", "_law_get", defArgs s__law_get, defBody s__law_get, defScope s__law_get, [], []⟩
def d__law_word : He.DefD := ⟨("_law_word", none), "_law_word", "_law_word", defArgs s__law_word, defBody s__law_word, defScope s__law_word, [], []⟩
def d__law_is_word : He.DefD := ⟨("_law_is_word", none), "_law_is_word", "_law_is_word", defArgs s__law_is_word, defBody s__law_is_word, defScope s__law_is_word, [], []⟩
def d__law_same : He.DefD := ⟨("_law_same", none), "_law_same", "_law_same", defArgs s__law_same, defBody s__law_same, defScope s__law_same, [], []⟩
def d__law_right : He.DefD := ⟨("_law_right", none), "_law_right", "_law_right", defArgs s__law_right, defBody s__law_right, defScope s__law_right, [], []⟩
def d__law_starts_right : He.DefD := ⟨("_law_starts_right", none), "_law_starts_right", "_law_starts_right", defArgs s__law_starts_right, defBody s__law_starts_right, defScope s__law_starts_right, [], []⟩
def d__law_rooted : He.DefD := ⟨("_law_rooted", none), "_law_rooted", "_law_rooted", defArgs s__law_rooted, defBody s__law_rooted, defScope s__law_rooted, [], []⟩
def d__law_told_stays : He.DefD := ⟨("_law_told_stays", none), "_law_told_stays", "_law_told_stays", defArgs s__law_told_stays, defBody s__law_told_stays, defScope s__law_told_stays, [], []⟩
def d_law : He.DefD := ⟨("law", none), "law", "law", defArgs s_law, defBody s_law, defScope s_law, [], []⟩
def fn : List He.DefD := [d__wall, d_is_whole, d_place_word, d_kind, d_worth, d_Hands___init__, d_Hands_need, d_Hands_get, d_Hands_put, d_Hands_row, d_Book___init__, d_Book_write, d_Book_rub, d_Book_has, d_Book_places, d_Book_clear, d_Lasts___init__, d_Lasts_give, d_Lasts_need, d_Lasts_move, d_Lasts_say, d_Lasts_pending, d_Lasts_said, d_Weak___init__, d_Weak_name, d_Weak_need, d_Weak_at, d_Weak_need_there, d_Weak_move, d_Weak_gone, d_Weak_names, d_Roots___init__, d_Roots_starts, d__law_draw, d__law_alone, d__law_made, d__law_put, d__law_get, d__law_word, d__law_is_word, d__law_same, d__law_right, d__law_starts_right, d__law_rooted, d__law_told_stays, d_law]
def exL : XL := ⟨["KeepError", "BadNumber", "BadWord", "BadCount", "NoPlace", "NoRoom", "NoSlot", "NoCell", "NoHand", "NothingHeld", "NoName", "NoDeed", "NoImage", "NoProgram"], ["Hands"]⟩
abbrev Tx (K : PySem.W.Frag) (mg : Str → Option Value) : Prop := Told fa fn exL K mg
theorem sc__wall : FnScope ["k"] ["k"] (defScope s__wall) := ⟨rfl, rfl, rfl, by decide +kernel, rfl, by decide +kernel, by decide +kernel⟩
theorem sc_is_whole : FnScope ["thing"] ["thing"] (defScope s_is_whole) := ⟨rfl, rfl, rfl, by decide +kernel, rfl, by decide +kernel, by decide +kernel⟩
theorem sc_place_word : FnScope ["at"] ["at"] (defScope s_place_word) := ⟨rfl, rfl, rfl, by decide +kernel, rfl, by decide +kernel, by decide +kernel⟩
theorem sc_kind : FnScope ["word"] ["word"] (defScope s_kind) := ⟨rfl, rfl, rfl, by decide +kernel, rfl, by decide +kernel, by decide +kernel⟩
theorem sc_worth : FnScope ["word"] ["word"] (defScope s_worth) := ⟨rfl, rfl, rfl, by decide +kernel, rfl, by decide +kernel, by decide +kernel⟩
theorem sc_Hands___init__ : FnScope ["self", "many", "hand"] ["self", "many"] (defScope s_Hands___init__) := ⟨rfl, rfl, rfl, by decide +kernel, rfl, by decide +kernel, by decide +kernel⟩
theorem sc_Hands_need : FnScope ["self", "hand"] ["self", "hand"] (defScope s_Hands_need) := ⟨rfl, rfl, rfl, by decide +kernel, rfl, by decide +kernel, by decide +kernel⟩
theorem sc_Hands_get : FnScope ["self", "hand"] ["self", "hand"] (defScope s_Hands_get) := ⟨rfl, rfl, rfl, by decide +kernel, rfl, by decide +kernel, by decide +kernel⟩
theorem sc_Hands_put : FnScope ["self", "hand", "word"] ["self", "hand", "word"] (defScope s_Hands_put) := ⟨rfl, rfl, rfl, by decide +kernel, rfl, by decide +kernel, by decide +kernel⟩
theorem sc_Hands_row : FnScope ["self"] ["self"] (defScope s_Hands_row) := ⟨rfl, rfl, rfl, by decide +kernel, rfl, by decide +kernel, by decide +kernel⟩
theorem sc_Book___init__ : FnScope ["self"] ["self"] (defScope s_Book___init__) := ⟨rfl, rfl, rfl, by decide +kernel, rfl, by decide +kernel, by decide +kernel⟩
theorem sc_Book_write : FnScope ["self", "place"] ["self", "place"] (defScope s_Book_write) := ⟨rfl, rfl, rfl, by decide +kernel, rfl, by decide +kernel, by decide +kernel⟩
theorem sc_Book_rub : FnScope ["self", "place"] ["self", "place"] (defScope s_Book_rub) := ⟨rfl, rfl, rfl, by decide +kernel, rfl, by decide +kernel, by decide +kernel⟩
theorem sc_Book_has : FnScope ["self", "place"] ["self", "place"] (defScope s_Book_has) := ⟨rfl, rfl, rfl, by decide +kernel, rfl, by decide +kernel, by decide +kernel⟩
theorem sc_Book_places : FnScope ["self"] ["self"] (defScope s_Book_places) := ⟨rfl, rfl, rfl, by decide +kernel, rfl, by decide +kernel, by decide +kernel⟩
theorem sc_Book_clear : FnScope ["self"] ["self"] (defScope s_Book_clear) := ⟨rfl, rfl, rfl, by decide +kernel, rfl, by decide +kernel, by decide +kernel⟩
theorem sc_Lasts___init__ : FnScope ["self"] ["self"] (defScope s_Lasts___init__) := ⟨rfl, rfl, rfl, by decide +kernel, rfl, by decide +kernel, by decide +kernel⟩
theorem sc_Lasts_give : FnScope ["self", "at", "number"] ["self", "at", "number"] (defScope s_Lasts_give) := ⟨rfl, rfl, rfl, by decide +kernel, rfl, by decide +kernel, by decide +kernel⟩
theorem sc_Lasts_need : FnScope ["self", "ticket"] ["self", "ticket"] (defScope s_Lasts_need) := ⟨rfl, rfl, rfl, by decide +kernel, rfl, by decide +kernel, by decide +kernel⟩
theorem sc_Lasts_move : FnScope ["self", "ticket", "at"] ["self", "ticket", "at"] (defScope s_Lasts_move) := ⟨rfl, rfl, rfl, by decide +kernel, rfl, by decide +kernel, by decide +kernel⟩
theorem sc_Lasts_say : FnScope ["self", "ticket"] ["self", "ticket"] (defScope s_Lasts_say) := ⟨rfl, rfl, rfl, by decide +kernel, rfl, by decide +kernel, by decide +kernel⟩
theorem sc_Lasts_pending : FnScope ["self"] ["self"] (defScope s_Lasts_pending) := ⟨rfl, rfl, rfl, by decide +kernel, rfl, by decide +kernel, by decide +kernel⟩
theorem sc_Lasts_said : FnScope ["self"] ["self"] (defScope s_Lasts_said) := ⟨rfl, rfl, rfl, by decide +kernel, rfl, by decide +kernel, by decide +kernel⟩
theorem sc_Weak___init__ : FnScope ["self"] ["self"] (defScope s_Weak___init__) := ⟨rfl, rfl, rfl, by decide +kernel, rfl, by decide +kernel, by decide +kernel⟩
theorem sc_Weak_name : FnScope ["self", "at"] ["self", "at"] (defScope s_Weak_name) := ⟨rfl, rfl, rfl, by decide +kernel, rfl, by decide +kernel, by decide +kernel⟩
theorem sc_Weak_need : FnScope ["self", "name"] ["self", "name"] (defScope s_Weak_need) := ⟨rfl, rfl, rfl, by decide +kernel, rfl, by decide +kernel, by decide +kernel⟩
theorem sc_Weak_at : FnScope ["self", "name"] ["self", "name"] (defScope s_Weak_at) := ⟨rfl, rfl, rfl, by decide +kernel, rfl, by decide +kernel, by decide +kernel⟩
theorem sc_Weak_need_there : FnScope ["self", "name"] ["self", "name"] (defScope s_Weak_need_there) := ⟨rfl, rfl, rfl, by decide +kernel, rfl, by decide +kernel, by decide +kernel⟩
theorem sc_Weak_move : FnScope ["self", "name", "at"] ["self", "name", "at"] (defScope s_Weak_move) := ⟨rfl, rfl, rfl, by decide +kernel, rfl, by decide +kernel, by decide +kernel⟩
theorem sc_Weak_gone : FnScope ["self", "name"] ["self", "name"] (defScope s_Weak_gone) := ⟨rfl, rfl, rfl, by decide +kernel, rfl, by decide +kernel, by decide +kernel⟩
theorem sc_Weak_names : FnScope ["self"] ["self"] (defScope s_Weak_names) := ⟨rfl, rfl, rfl, by decide +kernel, rfl, by decide +kernel, by decide +kernel⟩
theorem sc_Roots___init__ : FnScope ["self", "many"] ["self", "many"] (defScope s_Roots___init__) := ⟨rfl, rfl, rfl, by decide +kernel, rfl, by decide +kernel, by decide +kernel⟩
theorem sc_Roots_starts : FnScope ["self", "word"] ["self"] (defScope s_Roots_starts) := ⟨rfl, rfl, rfl, by decide +kernel, rfl, by decide +kernel, by decide +kernel⟩
theorem sc__law_draw : FnScope ["_law_script", "_law_k"] ["_law_script", "_law_k"] (defScope s__law_draw) := ⟨rfl, rfl, rfl, by decide +kernel, rfl, by decide +kernel, by decide +kernel⟩
theorem sc__law_alone : FnScope ["_law_e", "_law_found"] ["_law_e"] (defScope s__law_alone) := ⟨rfl, rfl, rfl, by decide +kernel, rfl, by decide +kernel, by decide +kernel⟩
theorem sc__law_made : FnScope ["_law_many", "_law_e"] ["_law_many"] (defScope s__law_made) := ⟨rfl, rfl, rfl, by decide +kernel, rfl, by decide +kernel, by decide +kernel⟩
theorem sc__law_put : FnScope ["_law_hands", "_law_hand", "_law_word_here", "_law_e"] ["_law_hands", "_law_hand", "_law_word_here"] (defScope s__law_put) := ⟨rfl, rfl, rfl, by decide +kernel, rfl, by decide +kernel, by decide +kernel⟩
theorem sc__law_get : FnScope ["_law_hands", "_law_hand", "_law_e"] ["_law_hands", "_law_hand"] (defScope s__law_get) := ⟨rfl, rfl, rfl, by decide +kernel, rfl, by decide +kernel, by decide +kernel⟩
theorem sc__law_word : FnScope ["_law_cell", "_law_more"] ["_law_cell"] (defScope s__law_word) := ⟨rfl, rfl, rfl, by decide +kernel, rfl, by decide +kernel, by decide +kernel⟩
theorem sc__law_is_word : FnScope ["_law_cell"] ["_law_cell"] (defScope s__law_is_word) := ⟨rfl, rfl, rfl, by decide +kernel, rfl, by decide +kernel, by decide +kernel⟩
theorem sc__law_same : FnScope ["_law_found", "_law_due", "_law_k"] ["_law_found", "_law_due"] (defScope s__law_same) := ⟨rfl, rfl, rfl, by decide +kernel, rfl, by decide +kernel, by decide +kernel⟩
theorem sc__law_right : FnScope ["_law_hands", "_law_kept", "_law_told", "_law_hand"] ["_law_hands", "_law_kept"] (defScope s__law_right) := ⟨rfl, rfl, rfl, by decide +kernel, rfl, by decide +kernel, by decide +kernel⟩
theorem sc__law_starts_right : FnScope ["_law_roots", "_law_rooted_here", "_law_told", "_law_due", "_law_word_here", "_law_found"] ["_law_roots", "_law_rooted_here", "_law_told"] (defScope s__law_starts_right) := ⟨rfl, rfl, rfl, by decide +kernel, rfl, by decide +kernel, by decide +kernel⟩
theorem sc__law_rooted : FnScope ["_law_roots", "_law_rooted_here", "_law_hand", "_law_word_here", "_law_cell", "_law_at"] ["_law_roots", "_law_rooted_here", "_law_hand", "_law_word_here", "_law_cell"] (defScope s__law_rooted) := ⟨rfl, rfl, rfl, by decide +kernel, rfl, by decide +kernel, by decide +kernel⟩
theorem sc__law_told_stays : FnScope ["_law_roots", "_law_rooted_here", "_law_told", "_law_found", "_law_due"] ["_law_roots", "_law_rooted_here", "_law_told"] (defScope s__law_told_stays) := ⟨rfl, rfl, rfl, by decide +kernel, rfl, by decide +kernel, by decide +kernel⟩
theorem sc_law : FnScope ["_law_script", "_law_many", "_law_hands", "_law_kept", "_law_roots", "_law_rooted_here", "_law_told", "_law_held", "_law_cell", "_law_hand", "_law_is_hand", "_law_before", "_law_due", "_law_found"] ["_law_script"] (defScope s_law) := ⟨rfl, rfl, rfl, by decide +kernel, rfl, by decide +kernel, by decide +kernel⟩

/-! ## words -/
/-- a plain thing that is no whole number -/
def Odd (H : Hp) (v : V) : Prop := ∃ t, tyOf v H = some t ∧ t ≠ "int"
theorem odd_not {H : Hp} {n : Int} : ¬ Odd H (.int n) := fun ⟨t, e, h⟩ => h (Option.some.inj e).symm
theorem odd_bl {H : Hp} {b : Bool} : Odd H (.bl b) := ⟨"bool", rfl, by decide⟩
theorem odd_non {H : Hp} : Odd H .non := ⟨"NoneType", rfl, by decide⟩
theorem odd_str {H : Hp} {z : Str} : Odd H (.str z) := ⟨"str", rfl, by decide⟩
theorem odd_lst {H : Hp} {a : Addr} {xs : List V} (h : H a = some (.lst xs)) : Odd H (.ref a) := ⟨"list", by show tyO (H a) = _; rw [h]; rfl, by decide⟩
theorem odd_tup {H : Hp} {a : Addr} {xs : List V} (h : H a = some (.tup xs)) : Odd H (.ref a) := ⟨"tuple", by show tyO (H a) = _; rw [h]; rfl, by decide⟩
theorem odd_dK {H : Hp} {a : Addr} {kvs : List (Key × V)} (h : H a = some (.dK kvs)) : Odd H (.ref a) := ⟨"dict", by show tyO (H a) = _; rw [h]; rfl, by decide⟩
inductive Wd where
  | num (n : Int) | place (p : Int) | nothing
  deriving DecidableEq
def Wd.kind : Wd → Str
  | .num _ => "number"
  | .place _ => "place"
  | .nothing => "nothing"
def Wd.worth : Wd → V
  | .num n => .int n
  | .place p => .int p
  | .nothing => .non
def wordOf (n : Int) : Option Wd := if n = -1 then some .nothing else if n % 2 = 0 ∧ (n.natAbs : Int) ≤ 2000000000000 then some (.num (n / 2)) else if n % 2 = 1 ∧ 0 < n ∧ n ≤ 19999 then some (.place (n / 2)) else none
abbrev Ex (K : PySem.W.Frag) (x : Str) : Value := .ref (He.ga K x)
def sp_is_whole : Sp
  | [.int _], H, Q, _ => Q (.bl true) H
  | [v], H, Q, _ => Odd H v ∧ Q (.bl false) H
  | _, _, _, _ => False
theorem len_is_whole {vs H Q E} (h : sp_is_whole vs H Q E) : vs.length = 1 := by unfold sp_is_whole at h; split at h <;> first | rfl | exact h.elim
theorem odd_whole {H : Hp} {v : V} {Q : VK} {E : XK} (h : Odd H v) : sp_is_whole [v] H Q E = Q (.bl false) H := by
  cases v with
  | int n => exact (odd_not h).elim
  | _ => exact propext ⟨fun z => z.2, fun z => ⟨h, z⟩⟩
theorem x_whole {H : Hp} {n : Int} {Q : VK} {E : XK} : sp_is_whole [.int n] H Q E = Q (.bl true) H := rfl
/-- the two questions of is_whole -/
theorem whole_odd {H : Hp} {v : V} {Q : VK} (h : Odd H v) (q : Q (.bl false) H) : gIsi [v, .ty "int"] H fun x H1 => ∃ c, x = .bl c ∧ if c = true then gIsi [v, .ty "bool"] H1 (fun x H2 => ∃ c, x = .bl c ∧ Q (.bl (!c)) H2) else Q (.bl false) H1 := by
  obtain ⟨t, e, ne⟩ := h
  refine ⟨by decide, t, e, _, rfl, ?_⟩
  have m := tyOf_in e
  split
  · rename_i c
    have tb : t = "bool" := by
      simp only [tys, List.mem_cons, List.not_mem_nil, or_false] at m
      rcases m with rfl | rfl | rfl | rfl | rfl | rfl | rfl
      · exact absurd c (by decide)
      · rfl
      · exact absurd rfl ne
      · exact absurd c (by decide)
      · exact absurd c (by decide)
      · exact absurd c (by decide)
      · exact absurd c (by decide)
    subst tb
    exact ⟨by decide, _, e, _, rfl, q⟩
  · exact q
theorem whole_int {H : Hp} {n : Int} {Q : VK} (q : Q (.bl true) H) : gIsi [.int n, .ty "int"] H fun x H1 => ∃ c, x = .bl c ∧ if c = true then gIsi [.int n, .ty "bool"] H1 (fun x H2 => ∃ c, x = .bl c ∧ Q (.bl (!c)) H2) else Q (.bl false) H1 :=
  ⟨by decide, _, rfl, _, rfl, by rw [if_pos (by decide)]; exact ⟨by decide, _, rfl, _, rfl, q⟩⟩
def sp_number_word (K : PySem.W.Frag) : Sp
  | [.int n], H, Q, E => if (n.natAbs : Int) ≤ 1000000000000 then Q (.int (2 * n)) H else E (Ex K "BadNumber") none H
  | [v], H, _, E => Odd H v ∧ E (Ex K "BadNumber") none H
  | _, _, _, _ => False
theorem odd_number_word {K : PySem.W.Frag} {H : Hp} {v : V} {Q : VK} {E : XK} (h : Odd H v) : sp_number_word K [v] H Q E = E (Ex K "BadNumber") none H := by
  cases v with
  | int n => exact (odd_not h).elim
  | _ => exact propext ⟨fun z => z.2, fun z => ⟨h, z⟩⟩
theorem one_number_word {K : PySem.W.Frag} {vs : List V} {H : Hp} {Q : VK} {E : XK} (h : sp_number_word K vs H Q E) : (∃ n, vs = [.int n]) ∨ ∃ v, vs = [v] ∧ Odd H v ∧ E (Ex K "BadNumber") none H := by
  unfold sp_number_word at h
  split at h
  · exact .inl ⟨_, rfl⟩
  · exact .inr ⟨_, rfl, h⟩
  · exact h.elim
theorem len_number_word {K vs H Q E} (h : sp_number_word K vs H Q E) : vs.length = 1 := by unfold sp_number_word at h; split at h <;> first | rfl | exact h.elim
def sp_place_word (K : PySem.W.Frag) : Sp
  | [.int n], H, Q, E => if 0 ≤ n ∧ n ≤ 9999 then Q (.int (2 * n + 1)) H else E (Ex K "NoPlace") none H
  | [v], H, _, E => Odd H v ∧ E (Ex K "NoPlace") none H
  | _, _, _, _ => False
theorem odd_place_word {K : PySem.W.Frag} {H : Hp} {v : V} {Q : VK} {E : XK} (h : Odd H v) : sp_place_word K [v] H Q E = E (Ex K "NoPlace") none H := by
  cases v with
  | int n => exact (odd_not h).elim
  | _ => exact propext ⟨fun z => z.2, fun z => ⟨h, z⟩⟩
theorem one_place_word {K : PySem.W.Frag} {vs : List V} {H : Hp} {Q : VK} {E : XK} (h : sp_place_word K vs H Q E) : (∃ n, vs = [.int n]) ∨ ∃ v, vs = [v] ∧ Odd H v ∧ E (Ex K "NoPlace") none H := by
  unfold sp_place_word at h
  split at h
  · exact .inl ⟨_, rfl⟩
  · exact .inr ⟨_, rfl, h⟩
  · exact h.elim
theorem len_place_word {K vs H Q E} (h : sp_place_word K vs H Q E) : vs.length = 1 := by unfold sp_place_word at h; split at h <;> first | rfl | exact h.elim
def sp_kind (K : PySem.W.Frag) : Sp
  | [.int n], H, Q, E => match wordOf n with
    | some w => Q (.str w.kind) H
    | none => E (Ex K "BadWord") none H
  | [v], H, _, E => Odd H v ∧ E (Ex K "BadWord") none H
  | _, _, _, _ => False
theorem odd_kind {K : PySem.W.Frag} {H : Hp} {v : V} {Q : VK} {E : XK} (h : Odd H v) : sp_kind K [v] H Q E = E (Ex K "BadWord") none H := by
  cases v with
  | int n => exact (odd_not h).elim
  | _ => exact propext ⟨fun z => z.2, fun z => ⟨h, z⟩⟩
theorem one_kind {K : PySem.W.Frag} {vs : List V} {H : Hp} {Q : VK} {E : XK} (h : sp_kind K vs H Q E) : (∃ n, vs = [.int n]) ∨ ∃ v, vs = [v] ∧ Odd H v ∧ E (Ex K "BadWord") none H := by
  unfold sp_kind at h
  split at h
  · exact .inl ⟨_, rfl⟩
  · exact .inr ⟨_, rfl, h⟩
  · exact h.elim
theorem len_kind {K vs H Q E} (h : sp_kind K vs H Q E) : vs.length = 1 := by unfold sp_kind at h; split at h <;> first | rfl | exact h.elim
def sp_worth (K : PySem.W.Frag) : Sp
  | [.int n], H, Q, E => match wordOf n with
    | some w => Q w.worth H
    | none => E (Ex K "BadWord") none H
  | [v], H, _, E => Odd H v ∧ E (Ex K "BadWord") none H
  | _, _, _, _ => False
theorem odd_worth {K : PySem.W.Frag} {H : Hp} {v : V} {Q : VK} {E : XK} (h : Odd H v) : sp_worth K [v] H Q E = E (Ex K "BadWord") none H := by
  cases v with
  | int n => exact (odd_not h).elim
  | _ => exact propext ⟨fun z => z.2, fun z => ⟨h, z⟩⟩
theorem one_worth {K : PySem.W.Frag} {vs : List V} {H : Hp} {Q : VK} {E : XK} (h : sp_worth K vs H Q E) : (∃ n, vs = [.int n]) ∨ ∃ v, vs = [v] ∧ Odd H v ∧ E (Ex K "BadWord") none H := by
  unfold sp_worth at h
  split at h
  · exact .inl ⟨_, rfl⟩
  · exact .inr ⟨_, rfl, h⟩
  · exact h.elim
theorem len_worth {K vs H Q E} (h : sp_worth K vs H Q E) : vs.length = 1 := by unfold sp_worth at h; split at h <;> first | rfl | exact h.elim
section
variable {K : PySem.W.Frag} {H : Hp} {n : Int} {Q : VK} {E : XK}
theorem x_number_word : sp_number_word K [.int n] H Q E = if (n.natAbs : Int) ≤ 1000000000000 then Q (.int (2 * n)) H else E (Ex K "BadNumber") none H := rfl
theorem x_place_word : sp_place_word K [.int n] H Q E = if 0 ≤ n ∧ n ≤ 9999 then Q (.int (2 * n + 1)) H else E (Ex K "NoPlace") none H := rfl
theorem x_kind : sp_kind K [.int n] H Q E = match wordOf n with
    | some w => Q (.str w.kind) H
    | none => E (Ex K "BadWord") none H := rfl
theorem x_worth : sp_worth K [.int n] H Q E = match wordOf n with
    | some w => Q w.worth H
    | none => E (Ex K "BadWord") none H := rfl
end
theorem kind_if {A B C F : Prop} {n : Int} {f : Wd → Prop} (h1 : f .nothing = A) (h2 : f (.num (n / 2)) = B) (h3 : f (.place (n / 2)) = C) :
    (match wordOf n with
    | some w => f w
    | none => F) = if n = -1 then A else if n % 2 = 0 ∧ (n.natAbs : Int) ≤ 2000000000000 then B else if n % 2 = 1 ∧ 0 < n ∧ n ≤ 19999 then C else F := by
  unfold wordOf
  by_cases c1 : n = -1
  · rw [if_pos c1, if_pos c1]; exact h1
  · rw [if_neg c1, if_neg c1]
    by_cases c2 : n % 2 = 0 ∧ (n.natAbs : Int) ≤ 2000000000000
    · rw [if_pos c2, if_pos c2]; exact h2
    · rw [if_neg c2, if_neg c2]
      by_cases c3 : n % 2 = 1 ∧ 0 < n ∧ n ≤ 19999
      · rw [if_pos c3, if_pos c3]; exact h3
      · rw [if_neg c3, if_neg c3]
theorem kind_is (w : Wd) : (w.kind = "nothing" ↔ w = .nothing) ∧ (w.kind = "place" ↔ ∃ p, w = .place p) ∧ (w.kind = "number" ↔ ∃ n, w = .num n) := by
  have d1 : ("number" : Str) ≠ "nothing" := by decide +kernel
  have d2 : ("number" : Str) ≠ "place" := by decide +kernel
  have d3 : ("place" : Str) ≠ "nothing" := by decide +kernel
  cases w with
  | num n => exact ⟨⟨fun z => (d1 z).elim, fun z => by cases z⟩, ⟨fun z => (d2 z).elim, fun ⟨_, z⟩ => by cases z⟩, ⟨fun _ => ⟨n, rfl⟩, fun _ => rfl⟩⟩
  | place n => exact ⟨⟨fun z => (d3 z).elim, fun z => by cases z⟩, ⟨fun _ => ⟨n, rfl⟩, fun _ => rfl⟩, ⟨fun z => (d2 z.symm).elim, fun ⟨_, z⟩ => by cases z⟩⟩
  | nothing => exact ⟨⟨fun _ => rfl, fun _ => rfl⟩, ⟨fun z => (d3 z.symm).elim, fun ⟨_, z⟩ => by cases z⟩, ⟨fun z => (d1 z.symm).elim, fun ⟨_, z⟩ => by cases z⟩⟩
theorem wordOf_div {n : Int} {w : Wd} (h : wordOf n = some w) : w.worth = if w = .nothing then .non else .int (n / 2) := by
  unfold wordOf at h
  repeat' split at h
  all_goals (cases h; try rfl)
local macro_rules | `(tactic| walk_at "w") => `(tactic| try simp only [↓x_var0, ↓x_varS, ↓x_c, ↓x_op, ↓x_un, ↓x_cb, ↓x_nil, ↓x_cons, ↓x_test, ↓x_b, ↓x_ex, ↓x_and, ↓x_or, ↓x_not, ↓x_andV, ↓x_orV, ↓x_notV, ↓x_tif, ↓x_chain, ↓x_menu, ↓x_menuI, ↓x_lst, ↓x_tup, ↓x_dnew, ↓x_callW, ↓x_callN, ↓x_seq, ↓x_next, ↓x_ret, ↓x_retN, ↓x_drop, ↓x_ifS, ↓x_asg, ↓x_name, ↓x_raise, ↓x_fld, ↓x_setF, ↓x_meth, ↓x_make, ↓x_sub, ↓r_min, ↓r_max, ↓x_yes, ↓x_for, ↓x_cut, ↓x_lc, ↓x_rng1, ↓x_rng2, ↓x_lst1, ↓x_itup, ↓x_rng3, ↓x_three, ↓x_lstg, ↓x_tupg, ↓x_adrS, ↓x_one, ↓x_two, ↓x_adr, ↓x_sl, ↓x_np, ↓x_pt, ↓x_int, ↓x_bm, ↓x_bm0, ↓x_consg, ↓x_nilg, ↓x_dget2, ↓x_dget1, ↓x_dget, ↓x_din, ↓x_dni, ↓x_dput, ↓x_dpop2, ↓r_isB, ↓r_notB, ↓x_enum, wipe, List.map_cons, List.map_nil, ↓x_isT, ↓r_isiII, ↓r_isiBB, ↓r_isiIB, ↓r_isiSS, ↓r_neNS, ↓r_neSN, ↓r_neNN, ↓r_eqNS, ↓r_eqSN, ↓r_eqNN, ↓r_eqIS, ↓r_neIS, ↓r_neSI, ↓r_neBS, ↓r_eqBB, ↓r_neBB, ↓x_start, ↓x_K, ↓x_start0, ↓r_i0, ↓r_i, ↓r_u, ↓r_addI, ↓r_addS, ↓r_mulI, ↓r_mulS, ↓r_eqI, ↓r_neI, ↓r_eqS, ↓r_neS, ↓r_absI, ↓r_intI, ↓r_intB, List.length_cons, List.length_nil, List.replicate, List.set_cons_zero, List.set_cons_succ, decide_eq_true_eq, Bool.not_eq_true', decide_eq_false_iff_not, if_true, if_false, Bool.false_eq_true, Bool.true_eq_false, ite_true, ite_false, Bool.not_true, Bool.not_false, c_div, n_ten, c_pow, not_true_eq_false, not_false_eq_true, decide_true, decide_false, true_and, and_true, and_self, true_or, or_true, Int.reduceLT, Int.reduceLE, Int.reduceMul, Int.reduceAdd, Int.reduceSub, Int.reducePow, Int.reduceNeg, Int.reduceDiv, Int.reduceMod, Nat.reducePow, Int.reduceToNat, Int.reduceEq, Int.reduceNe, Nat.reduceLT, Nat.reduceLeDiff, Nat.reduceAdd, ↓x_whole])
section
variable {P : Program} {w : World} {K : PySem.W.Frag} {mg : Str → Option Value} {base : Heap}
theorem f_is_whole (T : Tx K mg) : Fn P w K mg base 1 "is_whole" ["thing"] (sp_is_whole) := by
  refine T.mkFn 1 20 (d := d_is_whole) (N := ["thing"]) (k := 0) rfl rfl rfl rfl rfl sc_is_whole (fun _ _ _ _ _ _ us hl => match us, hl with | [_], _ => rfl) (fun vs H Q E h => ?len) (fun cdv A outer s H vs Q E hr h => ⟨_,
      (pss_one (ps_ret (pe_and (pe_callB call_gIsi (by rfl) (T.free 41) (by decide +kernel) (pa_cons (pv 0) (pa_cons (pe_ty (T := "int") (T.free 47) (by decide +kernel) (by rfl)) pa_nil))) (pe_one (pe_not (pe_callB call_gIsi (by rfl) (T.free 41) (by decide +kernel) (pa_cons (pv 0) (pa_cons (pe_ty (T := "bool") (T.free 48) (by decide +kernel) (by rfl)) pa_nil)))))))), ?rd⟩)
  case len => first | exact len_is_whole h | (repeat (first | (obtain ⟨rfl, _⟩ := h; rfl; done) | obtain ⟨_, h⟩ := h))
  case rd =>
    obtain ⟨v, rfl⟩ : ∃ v, vs = [v] := by unfold sp_is_whole at h; split at h <;> first | exact ⟨_, rfl⟩ | exact h.elim
    walk_at "x"
    cases v with
    | int n => exact whole_int h
    | _ => exact whole_odd h.1 h.2
theorem f_place_word (T : Tx K mg) : Fn P w K mg base 2 "place_word" ["at"] (sp_place_word K) := by
  have c_is_whole := f_is_whole (P := P) (w := w) (base := base) T
  refine T.mkFn 2 21 (d := d_place_word) (N := ["at"]) (k := 1) rfl rfl rfl rfl rfl sc_place_word (fun _ _ _ _ _ _ us hl => match us, hl with | [_], _ => rfl) (fun vs H Q E h => ?len) (fun cdv A outer s H vs Q E hr h => ⟨_,
      (pss_cons (ps_if (PW.pt (pw_or (pt_not (pt_val (pe_fn (takes_of rfl rfl rfl rfl) c_is_whole (hr.mono (by decide)) (by rfl) (pa_cons (pv 0) pa_nil)))) (pw_or1 (pt_not (pt_chain op_le op_le pe_int (pv 0) (pe_num (T.num 38) (by rfl))))))) (pss_one (ps_raiseK (K := K) rfl rfl (takes_of rfl rfl rfl rfl) (T.says.fact 56 rfl) (T.glo 4) (by rfl))) pss_nil)
        (pss_one (ps_ret (pe_op op_gAdd (pe_op op_gMul pe_int (pv 0)) pe_int)))), ?rd⟩)
  case len => first | exact len_place_word h | (repeat (first | (obtain ⟨rfl, _⟩ := h; rfl; done) | obtain ⟨_, h⟩ := h))
  case rd =>
    rcases one_place_word h with ⟨n, rfl⟩ | ⟨v, rfl, o, h⟩
    · walk_at "w"
      rw [x_place_word] at h
      ((repeat' split) <;> (repeat' split at h) <;> first | exact h | (exfalso; omega))
    · walk_at "x"
      rw [odd_whole o]
      walk_at "x"
      exact h
theorem f_kind (T : Tx K mg) : Fn P w K mg base 2 "kind" ["word"] (sp_kind K) := by
  have c_is_whole := f_is_whole (P := P) (w := w) (base := base) T
  refine T.mkFn 3 22 (d := d_kind) (N := ["word"]) (k := 1) rfl rfl rfl rfl rfl sc_kind (fun _ _ _ _ _ _ us hl => match us, hl with | [_], _ => rfl) (fun vs H Q E h => ?len) (fun cdv A outer s H vs Q E hr h => ⟨_,
      (pss_cons (ps_if (pt_not (pt_val (pe_fn (takes_of rfl rfl rfl rfl) c_is_whole (hr.mono (by decide)) (by rfl) (pa_cons (pv 0) pa_nil)))) (pss_one (ps_raiseK (K := K) rfl rfl (takes_of rfl rfl rfl rfl) (T.says.fact 54 rfl) (T.glo 2) (by rfl))) pss_nil)
        (pss_cons (ps_if (pt_cmpR (op_eqK (K := K) rfl hr.units) (pv 0) (pe_num (T.num 39) (by rfl)) (nomark _)) (pss_one (ps_ret pe_str)) pss_nil)
        (pss_cons (ps_if (PW.pt (pw_and (pt_cmpR (op_eqK (K := K) rfl hr.units) (pe_op op_mod (pv 0) pe_int) pe_int (nomark _)) (pw_and1 (pt_cmpR op_le (pe_callB call_gAbs (by rfl) (T.free 43) (by decide +kernel) (pa_cons (pv 0) pa_nil)) (pe_op op_gMul pe_int (pe_num (T.num 37) (by rfl))) (nomark _))))) (pss_one (ps_ret pe_str)) pss_nil)
        (pss_cons (ps_if (PW.pt (pw_and (pt_cmpR (op_eqK (K := K) rfl hr.units) (pe_op op_mod (pv 0) pe_int) pe_int (nomark _)) (pw_and1 (pt_chain op_lt op_le pe_int (pv 0) (pe_op op_gAdd (pe_op op_gMul pe_int (pe_num (T.num 38) (by rfl))) pe_int))))) (pss_one (ps_ret pe_str)) pss_nil)
        (pss_one (ps_raiseK (K := K) rfl rfl (takes_of rfl rfl rfl rfl) (T.says.fact 54 rfl) (T.glo 2) (by rfl))))))), ?rd⟩)
  case len => first | exact len_kind h | (repeat (first | (obtain ⟨rfl, _⟩ := h; rfl; done) | obtain ⟨_, h⟩ := h))
  case rd =>
    rcases one_kind h with ⟨n, rfl⟩ | ⟨v, rfl, o, h⟩
    · walk_at "w"
      rw [x_kind, kind_if rfl rfl rfl] at h
      ((repeat' split) <;> (repeat' split at h) <;> first | exact h | (exfalso; omega))
    · walk_at "x"
      rw [odd_whole o]
      walk_at "x"
      exact h
local macro_rules | `(tactic| walk_at "w2") => `(tactic| try simp only [↓x_var0, ↓x_varS, ↓x_c, ↓x_op, ↓x_un, ↓x_cb, ↓x_nil, ↓x_cons, ↓x_test, ↓x_b, ↓x_ex, ↓x_and, ↓x_or, ↓x_not, ↓x_andV, ↓x_orV, ↓x_notV, ↓x_tif, ↓x_chain, ↓x_menu, ↓x_menuI, ↓x_lst, ↓x_tup, ↓x_dnew, ↓x_callW, ↓x_callN, ↓x_seq, ↓x_next, ↓x_ret, ↓x_retN, ↓x_drop, ↓x_ifS, ↓x_asg, ↓x_name, ↓x_raise, ↓x_fld, ↓x_setF, ↓x_meth, ↓x_make, ↓x_sub, ↓r_min, ↓r_max, ↓x_yes, ↓x_for, ↓x_cut, ↓x_lc, ↓x_rng1, ↓x_rng2, ↓x_lst1, ↓x_itup, ↓x_rng3, ↓x_three, ↓x_lstg, ↓x_tupg, ↓x_adrS, ↓x_one, ↓x_two, ↓x_adr, ↓x_sl, ↓x_np, ↓x_pt, ↓x_int, ↓x_bm, ↓x_bm0, ↓x_consg, ↓x_nilg, ↓x_dget2, ↓x_dget1, ↓x_dget, ↓x_din, ↓x_dni, ↓x_dput, ↓x_dpop2, ↓r_isB, ↓r_notB, ↓x_enum, wipe, List.map_cons, List.map_nil, ↓x_isT, ↓r_isiII, ↓r_isiBB, ↓r_isiIB, ↓r_isiSS, ↓r_neNS, ↓r_neSN, ↓r_neNN, ↓r_eqNS, ↓r_eqSN, ↓r_eqNN, ↓r_eqIS, ↓r_neIS, ↓r_neSI, ↓r_neBS, ↓r_eqBB, ↓r_neBB, ↓x_start, ↓x_K, ↓x_start0, ↓r_i0, ↓r_i, ↓r_u, ↓r_addI, ↓r_addS, ↓r_mulI, ↓r_mulS, ↓r_eqI, ↓r_neI, ↓r_eqS, ↓r_neS, ↓r_absI, ↓r_intI, ↓r_intB, List.length_cons, List.length_nil, List.replicate, List.set_cons_zero, List.set_cons_succ, decide_eq_true_eq, Bool.not_eq_true', decide_eq_false_iff_not, if_true, if_false, Bool.false_eq_true, Bool.true_eq_false, ite_true, ite_false, Bool.not_true, Bool.not_false, c_div, n_ten, c_pow, not_true_eq_false, not_false_eq_true, decide_true, decide_false, true_and, and_true, and_self, true_or, or_true, Int.reduceLT, Int.reduceLE, Int.reduceMul, Int.reduceAdd, Int.reduceSub, Int.reducePow, Int.reduceNeg, Int.reduceDiv, Int.reduceMod, Nat.reducePow, Int.reduceToNat, Int.reduceEq, Int.reduceNe, Nat.reduceLT, Nat.reduceLeDiff, Nat.reduceAdd, ↓x_whole, ↓x_kind])
theorem f_worth (T : Tx K mg) : Fn P w K mg base 3 "worth" ["word"] (sp_worth K) := by
  have c_kind := f_kind (P := P) (w := w) (base := base) T
  refine T.mkFn 4 23 (d := d_worth) (N := ["word"]) (k := 2) rfl rfl rfl rfl rfl sc_worth (fun _ _ _ _ _ _ us hl => match us, hl with | [_], _ => rfl) (fun vs H Q E h => ?len) (fun cdv A outer s H vs Q E hr h => ⟨_,
      (pss_cons (ps_if (pt_cmpR (op_eqK (K := K) rfl hr.units) (pe_fn (takes_of rfl rfl rfl rfl) c_kind (hr.mono (by decide)) (by rfl) (pa_cons (pv 0) pa_nil)) pe_str (nomark _)) (pss_one (ps_ret pe_non)) pss_nil)
        (pss_one (ps_ret (pe_op op_fdiv (pv 0) pe_int)))), ?rd⟩)
  case len => first | exact len_worth h | (repeat (first | (obtain ⟨rfl, _⟩ := h; rfl; done) | obtain ⟨_, h⟩ := h))
  case rd =>
    rcases one_worth h with ⟨n, rfl⟩ | ⟨v, rfl, o, h⟩
    · walk_at "w2"
      rw [x_worth] at h
      cases e : wordOf n with
      | none => rw [e] at h; exact h
      | some w =>
        rw [e] at h
        replace h : Q w.worth H := h
        walk_at "w2"
        rw [wordOf_div e] at h
        simp only [(kind_is w).1]
        split
        · rename_i c
          rw [if_pos c] at h
          exact h
        · rename_i c
          rw [if_neg c] at h
          exact h
    · walk_at "x"
      rw [odd_kind o]
      exact h
end
def Vw (ws : List Int) : Prop := ∀ w ∈ ws, (wordOf w).isSome = true
theorem Vw.get {ws : List Int} (h : Vw ws) {i : Nat} (hi : i < ws.length) : ∃ w, wordOf (ws.getD i 0) = some w := by
  have m := List.mem_of_getElem? (getD_at (d := 0) hi)
  exact Option.isSome_iff_exists.mp (h _ m)
theorem Vw.set {ws : List Int} (h : Vw ws) {i : Nat} {n : Int} (hn : (wordOf n).isSome = true) : Vw (ws.set i n) := fun w m => by
  rcases List.mem_or_eq_of_mem_set m with m | rfl
  · exact h w m
  · exact hn
theorem Vw.rep {n : Nat} : Vw (List.replicate n (-1)) := fun w m => by
  rw [(List.mem_replicate.mp m).2]
  rfl
theorem k_nn : (Wd.nothing.kind = ("number" : Str)) = False := eq_false (show ¬ ("nothing" : Str) = "number" by decide +kernel)
theorem k_pn {p : Int} : ((Wd.place p).kind = ("number" : Str)) = False := eq_false (show ¬ ("place" : Str) = "number" by decide +kernel)
theorem k_Nn {n : Int} : ((Wd.num n).kind = ("number" : Str)) = True := eq_true (show ("number" : Str) = "number" from rfl)
theorem k_np : (Wd.nothing.kind = ("place" : Str)) = False := eq_false (show ¬ ("nothing" : Str) = "place" by decide +kernel)
theorem k_Np {n : Int} : ((Wd.num n).kind = ("place" : Str)) = False := eq_false (show ¬ ("number" : Str) = "place" by decide +kernel)
theorem k_pp {p : Int} : ((Wd.place p).kind = ("place" : Str)) = True := eq_true (show ("place" : Str) = "place" from rfl)
theorem word_num {n : Int} (h : (n.natAbs : Int) ≤ 1000000000000) : wordOf (2 * n) = some (.num n) := by
  unfold wordOf
  rw [if_neg (by omega), if_pos (by omega)]
  congr 2
  omega
theorem word_place {n : Int} (h0 : 0 ≤ n) (h1 : n ≤ 9999) : wordOf (2 * n + 1) = some (.place n) := by
  unfold wordOf
  rw [if_neg (by omega), if_neg (by omega), if_pos (by omega)]
  congr 2
  omega
def wordV : V → Option Int
  | .int n => if (wordOf n).isSome then some n else none
  | _ => none
theorem wordV_int {n : Int} : wordV (.int n) = if (wordOf n).isSome then some n else none := rfl
theorem wordV_odd {H : Hp} {v : V} (h : Odd H v) : wordV v = none := by
  cases v with
  | int i => exact (odd_not h).elim
  | _ => rfl
theorem wordV_some {v : V} {n : Int} (h : wordV v = some n) : v = .int n ∧ ∃ w, wordOf n = some w := by
  cases v with
  | int j =>
    rw [wordV_int] at h
    split at h
    · rename_i c
      cases h
      exact ⟨rfl, Option.isSome_iff_exists.mp c⟩
    · cases h
  | _ => cases h
theorem wordV_none {n : Int} (h : wordV (.int n) = none) : wordOf n = none := by
  rw [wordV_int] at h
  split at h
  · cases h
  · rename_i c
    cases e : wordOf n with
    | none => rfl
    | some w => rw [e] at c; exact absurd rfl c
local macro_rules | `(tactic| walk_at "w2") => `(tactic| try simp only [↓x_var0, ↓x_varS, ↓x_c, ↓x_op, ↓x_un, ↓x_cb, ↓x_nil, ↓x_cons, ↓x_test, ↓x_b, ↓x_ex, ↓x_and, ↓x_or, ↓x_not, ↓x_andV, ↓x_orV, ↓x_notV, ↓x_tif, ↓x_chain, ↓x_menu, ↓x_menuI, ↓x_lst, ↓x_tup, ↓x_dnew, ↓x_callW, ↓x_callN, ↓x_seq, ↓x_next, ↓x_ret, ↓x_retN, ↓x_drop, ↓x_ifS, ↓x_asg, ↓x_name, ↓x_raise, ↓x_fld, ↓x_setF, ↓x_meth, ↓x_make, ↓x_sub, ↓r_min, ↓r_max, ↓x_yes, ↓x_for, ↓x_cut, ↓x_lc, ↓x_rng1, ↓x_rng2, ↓x_lst1, ↓x_itup, ↓x_rng3, ↓x_three, ↓x_lstg, ↓x_tupg, ↓x_adrS, ↓x_one, ↓x_two, ↓x_adr, ↓x_sl, ↓x_np, ↓x_pt, ↓x_int, ↓x_bm, ↓x_bm0, ↓x_consg, ↓x_nilg, ↓x_dget2, ↓x_dget1, ↓x_dget, ↓x_din, ↓x_dni, ↓x_dput, ↓x_dpop2, ↓r_isB, ↓r_notB, ↓x_enum, wipe, List.map_cons, List.map_nil, ↓x_isT, ↓r_isiII, ↓r_isiBB, ↓r_isiIB, ↓r_isiSS, ↓r_neNS, ↓r_neSN, ↓r_neNN, ↓r_eqNS, ↓r_eqSN, ↓r_eqNN, ↓r_eqIS, ↓r_neIS, ↓r_neSI, ↓r_neBS, ↓r_eqBB, ↓r_neBB, ↓x_start, ↓x_K, ↓x_start0, ↓r_i0, ↓r_i, ↓r_u, ↓r_addI, ↓r_addS, ↓r_mulI, ↓r_mulS, ↓r_eqI, ↓r_neI, ↓r_eqS, ↓r_neS, ↓r_absI, ↓r_intI, ↓r_intB, List.length_cons, List.length_nil, List.replicate, List.set_cons_zero, List.set_cons_succ, decide_eq_true_eq, Bool.not_eq_true', decide_eq_false_iff_not, if_true, if_false, Bool.false_eq_true, Bool.true_eq_false, ite_true, ite_false, Bool.not_true, Bool.not_false, c_div, n_ten, c_pow, not_true_eq_false, not_false_eq_true, decide_true, decide_false, true_and, and_true, and_self, true_or, or_true, Int.reduceLT, Int.reduceLE, Int.reduceMul, Int.reduceAdd, Int.reduceSub, Int.reducePow, Int.reduceNeg, Int.reduceDiv, Int.reduceMod, Nat.reducePow, Int.reduceToNat, Int.reduceEq, Int.reduceNe, Nat.reduceLT, Nat.reduceLeDiff, Nat.reduceAdd, ↓x_whole, ↓x_kind])

/-! ## the script's cells, lists that are read -/
def cell (ns : List Int) (j : Int) : Int := ns.getD j.toNat 0
theorem same_new {H : Hp} {p : Addr} {o : HO} (h : H p = none) : Same H (upd H p o) := fun b u e => by
  rw [upd_ne (ne_of_none e h)]
  exact e
theorem ite_and {P Q A B : Prop} [Decidable P] [Decidable Q] (h1 : P → Q → A) (h2 : ¬ (P ∧ Q) → B) : if P then (if Q then A else B) else B := by
  split
  · split
    · exact h1 ‹_› ‹_›
    · exact h2 fun z => absurd z.2 ‹_›
  · exact h2 fun z => absurd z.1 ‹_›
theorem ite_or {P Q A B : Prop} [Decidable P] [Decidable Q] (h1 : P ∨ Q → A) (h2 : ¬ P → ¬ Q → B) : if P then A else if Q then A else B := by
  split
  · exact h1 (.inl ‹_›)
  · split
    · exact h1 (.inr ‹_›)
    · exact h2 ‹_› ‹_›
/-- a new instance; its first deed -/
theorem same_mk {H : Hp} {x dx C : Addr} (nx : H x = none) (ndx : H dx = none) (ne : dx ≠ x) : Same H (upd (upd H dx (.own x)) x (.ins C dx [])) := (same_new ndx).trans (same_new (by rw [upd_ne ne.symm]; exact nx))
theorem same_init {H H' : Hp} {x dx C : Addr} (nx : H x = none) (ndx : H dx = none) (ne : dx ≠ x) (k : ∀ c o, c ≠ x → upd (upd H dx (.own x)) x (.ins C dx []) c = some o → H' c = some o) : Same H H' := fun c o e => k c o (ne_of_none e nx) (same_mk nx ndx ne c o e)
theorem cut_ints (ns : List Int) (lo hi : Option Int) : ∃ cs : List Int, cutV (ns.map V.int) lo hi = cs.map V.int := ⟨(ns.drop (HT.sIx ns.length 0 lo)).take (HT.sIx ns.length ns.length hi - HT.sIx ns.length 0 lo), by unfold cutV; rw [List.length_map, List.map_take, List.map_drop]⟩
def placeOf (n : Nat) : V → Option Nat
  | .int i => if 0 ≤ i ∧ i < n then some i.toNat else none
  | _ => none
theorem placeOf_int {n : Nat} {i : Int} : placeOf n (.int i) = if 0 ≤ i ∧ i < n then some i.toNat else none := rfl
theorem placeOf_odd {H : Hp} {n : Nat} {v : V} (h : Odd H v) : placeOf n v = none := by
  cases v with
  | int i => exact (odd_not h).elim
  | _ => rfl
theorem placeOf_some {n : Nat} {v : V} {i : Nat} (h : placeOf n v = some i) : v = .int (i : Int) ∧ i < n := by
  cases v with
  | int j =>
    rw [placeOf_int] at h
    split at h
    · rename_i c
      have e := Option.some.inj h
      exact ⟨by rw [← e]; congr 1; omega, by omega⟩
    · cases h
  | _ => cases h
def placeW : V → Option Int
  | .int n => if 0 ≤ n ∧ n ≤ 9999 then some n else none
  | _ => none
theorem placeW_int {n : Int} : placeW (.int n) = if 0 ≤ n ∧ n ≤ 9999 then some n else none := rfl
theorem placeW_odd {H : Hp} {v : V} (h : Odd H v) : placeW v = none := by
  cases v with
  | int i => exact (odd_not h).elim
  | _ => rfl
theorem placeW_some {v : V} {n : Int} (h : placeW v = some n) : v = .int n ∧ 0 ≤ n ∧ n ≤ 9999 := by
  cases v with
  | int j =>
    rw [placeW_int] at h
    split at h
    · rename_i c
      cases h
      exact ⟨rfl, c⟩
    · cases h
  | _ => cases h
theorem all_flat {ws : List Int} : (ws.map V.int).all flatV = true := by
  rw [List.all_map]
  exact List.all_eq_true.mpr fun _ _ => rfl
theorem in_ints {n : Int} {ws : List Int} : inV (.int n) (ws.map V.int) = decide (n ∈ ws) := by
  unfold inV
  rw [List.any_map]
  by_cases c : n ∈ ws
  · rw [decide_eq_true c]
    exact List.any_eq_true.mpr ⟨n, c, beq_self_eq_true n⟩
  · rw [decide_eq_false c]
    refine List.any_eq_false.mpr fun x hx e => c ?_
    have e2 : x = n := eq_of_beq e
    exact e2 ▸ hx
theorem none_of {H H' : Hp} {a : Addr} (s : Same H H') (h : H' a = none) : H a = none := by
  cases e : H a with
  | none => rfl
  | some o =>
    rw [s a o e] at h
    cases h
/-- a list that grows -/
theorem r_app {K : PySem.W.Frag} {H : Hp} {l : Addr} {xs : List V} {y : V} {Q : VK} (h : H l = some (.lst xs)) (hn : xs.length < sizeLine) (q : Q .non (upd H l (.lst (xs ++ [y])))) : tyV K "list" (.ref l) H ∧ rAppend (.ref l) [y] H Q := ⟨.inl ⟨rfl, _, .of h⟩, l, xs, y, rfl, rfl, h, hn, q⟩
theorem ty_lst {K : PySem.W.Frag} {H : Hp} {l : Addr} {xs : List V} (h : H l = some (.lst xs)) : tyV K "list" (.ref l) H := .inl ⟨rfl, _, .of h⟩
theorem same_tyOf {H H' : Hp} {v : V} {t : String} (s : Same H H') (h : tyOf v H = some t) : tyOf v H' = some t := by
  cases v with
  | ref a =>
    have h1 : tyO (H a) = some t := h
    cases e : H a with
    | none =>
      rw [e] at h1
      cases h1
    | some o =>
      rw [e] at h1
      show tyO (H' a) = some t
      rw [s a o e]
      exact h1
  | _ => exact h
theorem odd_same {H H' : Hp} {v : V} (s : Same H H') (h : Odd H v) : Odd H' v := h.elim fun t q => ⟨t, same_tyOf s q.1, q.2⟩
def Thing (H : Hp) (v : V) : Prop := (∃ n, v = .int n) ∨ Odd H v
theorem thing_same {H H' : Hp} {v : V} (s : Same H H') (h : Thing H v) : Thing H' v := h.imp id (odd_same s)
theorem thing_upd {H : Hp} {a : Addr} {o o' : HO} {v : V} (e : H a = some o) (q : tyO (some o) = tyO (some o')) (h : Thing H v) : Thing (upd H a o') v := h.imp id fun ⟨t, g, ne⟩ => ⟨t, by
  cases v with
  | ref b =>
    have h1 : tyO (H b) = some t := g
    show tyO (upd H a o' b) = some t
    by_cases c : b = a
    · subst c
      rw [upd_same, ← q, ← e]
      exact h1
    · rw [upd_ne c]
      exact h1
  | _ => exact g, ne⟩
theorem r_lenS {K : PySem.W.Frag} {H : Hp} {a : Addr} {xs : List V} {Q : VK} (h : SqL K H a xs) (q : Q (.int (xs.length : Int)) H) : L2.rLen K [.ref a] H Q := ⟨_, _, rfl, .inl ⟨_, h, rfl⟩, q⟩
theorem r_ixS {K : PySem.W.Frag} {H : Hp} {a : Addr} {xs : List V} {i : Int} {v : V} {Q : VK} (h : SqL K H a xs) (e : atI xs i = some v) (q : Q v H) : rIx K (.ref a) (.int i) H Q := .inl ⟨_, _, _, _, rfl, rfl, h, e, q⟩
theorem at_pos {α : Type} {xs : List α} {i : Int} {v : α} (h : 0 ≤ i) (e : xs[i.toNat]? = some v) : atI xs i = some v := by
  have hl := (List.getElem?_eq_some_iff.mp e).1
  unfold atI ixN
  rw [if_pos h, if_pos (by omega)]
  exact e
theorem menu_pick {xs : List V} {i : Int} {P : V → Prop} (Good : V → Prop) (h : ∃ v, atI xs i = some v ∧ Good v) (k : ∀ v, Good v → P v) : ∃ v, atI xs i = some v ∧ P v := h.elim fun v q => ⟨v, q.1, k v q.2⟩
theorem cut_int {ns : List Int} {lo hi : Option Int} {i : Nat} {x : V} (h : (cutV (ns.map V.int) lo hi)[i]? = some x) : ∃ c, x = .int c := by
  have m := List.mem_of_getElem? h
  unfold cutV at m
  have m2 := List.mem_of_mem_drop (List.mem_of_mem_take m)
  obtain ⟨c, -, e⟩ := List.mem_map.mp m2
  exact ⟨c, e.symm⟩
theorem sIx_pos {n d : Nat} {v : Int} (h : 0 ≤ v) : HT.sIx n d (some v) = min v.toNat n := by
  show (if v < 0 then (v + (n : Int)).toNat else min v.toNat n) = _
  rw [if_neg (by omega)]
theorem cut_len {xs : List V} {a b : Int} (h0 : 0 ≤ a) (h1 : a ≤ b) : (cutV xs (some a) (some b)).length ≤ (b - a).toNat := by
  unfold cutV
  rw [List.length_take, List.length_drop]
  rw [sIx_pos h0, sIx_pos (by omega)]
  omega
def sp_cell (K : PySem.W.Frag) : Sp := fun vs H Q _ => ∃ a j ns, vs = [.ref a, .int j] ∧ SqL K H a (ns.map V.int) ∧ 0 ≤ j ∧ Q (.int (cell ns j)) H
section
variable {P : Program} {w : World} {K : PySem.W.Frag} {mg : Str → Option Value} {base : Heap}
end

section
variable {P : Program} {w : World} {K : PySem.W.Frag} {mg : Str → Option Value} {base : Heap}
theorem f__law_draw (T : Tx K mg) : Fn P w K mg base 1 "_law_draw" ["_law_script", "_law_k"] (sp_cell K) := by
  refine T.mkFn 33 24 (d := d__law_draw) (N := ["_law_script", "_law_k"]) (k := 0) rfl rfl rfl rfl rfl sc__law_draw (fun _ _ _ _ _ _ us hl => match us, hl with | [_, _], _ => rfl) (fun vs H Q E h => ?len) (fun cdv A outer s H vs Q E hr h => ⟨_,
      (pss_one (ps_ret (pe_ifExp (pt_cmpR op_gt (pe_callB (call_lenK (K := K) rfl) (by rfl) (T.free 42) PySem.boot_len (pa_cons (pv 0) pa_nil)) (pv 1) (nomark _)) (pe_ix (ix_seqK (K := K) rfl) (pv 0) (pv 1) (fun _ _ => rfl)) pe_int))), ?rd⟩)
  case len => obtain ⟨a, j, ns, rfl, _⟩ := h; rfl
  case rd =>
    obtain ⟨a, j, ns, rfl, hS, h0, q⟩ := h
    walk_at "x"
    refine r_lenS hS ?_
    walk_at "x"
    rw [List.length_map]
    unfold cell at q
    split
    · walk_at "x"
      refine r_ixS hS (at_pos h0 (v := .int (ns.getD j.toNat 0)) ?_) q
      rw [List.getElem?_map, List.getElem?_eq_getElem (by omega), List.getD_eq_getElem?_getD, List.getElem?_eq_getElem (by omega)]
      rfl
    · walk_at "x"
      have e : ns.getD j.toNat 0 = 0 := by
        rw [List.getD_eq_getElem?_getD, List.getElem?_eq_none (by omega)]
        rfl
      rw [e] at q
      exact q
end


/-! ## books -/
def bk (ps : List Int) : List (Key × V) := ps.map fun i => (.inl i, .bl true)
def addP (ps : List Int) (i : Int) : List Int := if i ∈ ps then ps else ps ++ [i]
def delP (ps : List Int) (i : Int) : List Int := ps.filter fun j => decide (j ≠ i)
theorem val_bk {ps : List Int} {i : Int} : valV (bk ps) (.inl i : Key) = if i ∈ ps then some (.bl true) else none := by
  induction ps with
  | nil => rfl
  | cons j r ih =>
    by_cases e : j = i
    · subst e
      rw [if_pos (List.mem_cons_self)]
      exact valV_pos rfl
    · have e2 : ¬ ((.inl j : Key) = .inl i) := fun z => e (Sum.inl.inj z)
      refine (valV_neg (p := ((.inl j : Key), V.bl true)) (r := bk r) e2).trans (ih.trans ?_)
      by_cases c : i ∈ r
      · rw [if_pos c, if_pos (List.mem_cons_of_mem _ c)]
      · rw [if_neg c, if_neg fun z => (List.mem_cons.mp z).elim (fun q => e q.symm) c]
theorem put_bk {ps : List Int} {i : Int} : putK (bk ps) (.inl i : Key) (.bl true) = bk (addP ps i) := by
  unfold putK addP
  rw [valV_any, val_bk]
  by_cases c : i ∈ ps
  · rw [if_pos c, if_pos c, if_pos (show (some (V.bl true)).isSome = true from rfl)]
    unfold bk
    rw [List.map_map]
    refine List.map_congr_left fun j _ => ?_
    show (if (.inl j : Key) = .inl i then ((.inl j : Key), V.bl true) else ((.inl j : Key), V.bl true)) = _
    rw [ite_self]
  · rw [if_neg c, if_neg c, if_neg (by decide)]
    unfold bk
    rw [List.map_append]
    rfl
theorem drop_bk {ps : List Int} {i : Int} : dropK (bk ps) (.inl i : Key) = bk (delP ps i) := by
  unfold dropK delP bk
  rw [List.filter_map]
  congr 1
  refine List.filter_congr fun j _ => ?_
  show decide ((.inl j : Key) ≠ .inl i) = decide (j ≠ i)
  by_cases e : j = i
  · subst e
    rw [decide_eq_false (by simp), decide_eq_false (by simp)]
  · have e2 : (.inl j : Key) ≠ .inl i := fun z => e (Sum.inl.inj z)
    rw [decide_eq_true e2, decide_eq_true e]
theorem key_bk {ps : List Int} : (bk ps).map (fun kv => kV kv.1) = ps.map V.int := by
  unfold bk
  rw [List.map_map]
  rfl
theorem mem_addP {ps : List Int} {i j : Int} : j ∈ addP ps i ↔ j ∈ ps ∨ j = i := by
  unfold addP
  split
  · rename_i c
    exact ⟨.inl, fun h => h.elim id fun e => e ▸ c⟩
  · rw [List.mem_append, List.mem_singleton]
theorem nd_addP {ps : List Int} {i : Int} (h : ps.Nodup) : (addP ps i).Nodup := by
  unfold addP
  split
  · exact h
  · rename_i c
    refine List.nodup_append.mpr ⟨h, by simp, fun a ha b hb => ?_⟩
    rw [List.mem_singleton] at hb
    subst hb
    exact fun e => c (e ▸ ha)
theorem len_addP {ps : List Int} {i : Int} : (addP ps i).length ≤ ps.length + 1 := by
  unfold addP
  split
  · omega
  · rw [List.length_append]
    show ps.length + 1 ≤ ps.length + 1
    omega
theorem mem_delP {ps : List Int} {i j : Int} : j ∈ delP ps i ↔ j ∈ ps ∧ j ≠ i := by
  unfold delP
  rw [List.mem_filter, decide_eq_true_eq]
theorem nd_delP {ps : List Int} {i : Int} (h : ps.Nodup) : (delP ps i).Nodup := List.Pairwise.filter _ h
theorem len_delP {ps : List Int} {i : Int} : (delP ps i).length ≤ ps.length := List.length_filter_le ..
theorem sort_one {a b c d : List Int} (na : a.Nodup) (nb : b.Nodup) (m : ∀ i, i ∈ a ↔ i ∈ b) (ca : c.Perm a) (db : d.Perm b) (pc : c.Pairwise (· ≤ ·)) (pd : d.Pairwise (· ≤ ·)) : c = d :=
  List.Perm.eq_of_pairwise (fun _ _ _ _ h1 h2 => Int.le_antisymm h1 h2) pc pd (ca.trans (((List.perm_ext_iff_of_nodup na nb).mpr m).trans db.symm))
structure BookO (K : PySem.W.Frag) (H : Hp) (b dx d : Addr) (ps : List Int) : Prop where
  ob : H b = some (.ins (He.ga K "Book") dx (F_Book (.ref d)))
  ds : H d = some (.dK (bk ps))
  nd : ps.Nodup
theorem BookO.same {K H H' b dx d ps} (h : BookO K H b dx d ps) (s : Same H H') : BookO K H' b dx d ps := ⟨s _ _ h.ob, s _ _ h.ds, h.nd⟩
theorem BookO.ne {K H b dx d ps} (h : BookO K H b dx d ps) : b ≠ d := ne_of h.ob h.ds (by intro z; cases z)
theorem BookO.put {K H b dx d ps} (h : BookO K H b dx d ps) {qs : List Int} (n : qs.Nodup) : BookO K (upd H d (.dK (bk qs))) b dx d qs := ⟨by rw [upd_ne h.ne]; exact h.ob, upd_same, n⟩
def sp_Book___init__ (K : PySem.W.Frag) : Sp := fun vs H Q _ => ∃ b dx, vs = [.ref b] ∧ H b = some (.ins (He.ga K "Book") dx []) ∧ ∀ d H', H d = none → BookO K H' b dx d [] → (∀ c o, c ≠ b → H c = some o → H' c = some o) → Q .non H'
def sp_Book_write (K : PySem.W.Frag) : Sp := fun vs H Q E => ∃ b dx d ps v, vs = [.ref b, v] ∧ BookO K H b dx d ps ∧ ps.length < 1000000 ∧ Thing H v ∧ match placeW v with
  | some n => Q .non (upd H d (.dK (bk (addP ps n))))
  | none => E (Ex K "NoPlace") none H
def sp_Book_rub (K : PySem.W.Frag) : Sp := fun vs H Q E => ∃ b dx d ps v, vs = [.ref b, v] ∧ BookO K H b dx d ps ∧ Thing H v ∧ match placeW v with
  | some n => Q .non (upd H d (.dK (bk (delP ps n)))) ∧ (delP ps n = ps → Q .non H)
  | none => E (Ex K "NoPlace") none H
def sp_Book_has (K : PySem.W.Frag) : Sp := fun vs H Q E => ∃ b dx d ps v, vs = [.ref b, v] ∧ BookO K H b dx d ps ∧ Thing H v ∧ match placeW v with
  | some n => Q (.bl (decide (n ∈ ps))) H
  | none => E (Ex K "NoPlace") none H
def sp_Book_places (K : PySem.W.Frag) : Sp := fun vs H Q _ => ∃ b dx d ps, vs = [.ref b] ∧ BookO K H b dx d ps ∧ ps.length < 1000000 ∧ ∀ (ns : List Int) p H', ns.Perm ps → ns.Pairwise (· ≤ ·) → H p = none → Same H H' → H' p = some (.lst (ns.map V.int)) → Q (.ref p) H'
def sp_Book_clear (K : PySem.W.Frag) : Sp := fun vs H Q _ => ∃ b dx d ps, vs = [.ref b] ∧ BookO K H b dx d ps ∧ ∀ d' H', H d' = none → BookO K H' b dx d' [] → (∀ c o, c ≠ b → H c = some o → H' c = some o) → Q .non H'
section
variable {P : Program} {w : World} {K : PySem.W.Frag} {mg : Str → Option Value} {base : Heap}
theorem f_Book___init__ (T : Tx K mg) : Mi P w K mg base 1 "Book" ["self"] (sp_Book___init__ K) := by
  refine T.mkMi 10 74 15 (d := d_Book___init__) (N := ["self"]) (k := 0) rfl rfl rfl rfl rfl rfl sc_Book___init__ (fun _ _ _ _ _ _ us hl => match us, hl with | [_], _ => rfl) (fun vs H Q E h => ?len) (fun cdv A outer s H vs Q E hr h => ⟨_,
      (pss_one (ps_fldC (T.cls 73) (T.noat 80) (pv 0) pe_dnewK)), ?rd⟩)
  case len => obtain ⟨b, dx, rfl, _⟩ := h; rfl
  case rd =>
    obtain ⟨b, dx, rfl, M, q⟩ := h
    walk_at "w2"
    intro d hd
    have nb : b ≠ d := ne_of_none M hd
    refine ⟨b, dx, _, rfl, by rw [upd_ne nb]; exact M, by decide, ?_⟩
    rw [pi_Book_marks]
    exact q d _ hd ⟨upd_same, by rw [upd_ne nb.symm]; exact upd_same, List.nodup_nil⟩ fun c o hc e => by rw [upd_ne hc, upd_ne (ne_of_none e hd)]; exact e
theorem f_Book_write (T : Tx K mg) : Mt P w K mg base 3 "Book" "write" ["self", "place"] (sp_Book_write K) := by
  have c_place_word := f_place_word (P := P) (w := w) (base := base) T
  refine T.mkMt 11 75 73 (d := d_Book_write) (N := ["self", "place"]) (k := 2) rfl rfl rfl rfl rfl rfl sc_Book_write (fun _ _ _ _ _ _ us hl => match us, hl with | [_, _], _ => rfl) (fun vs H Q E h => ?len) (fun cdv A outer s H vs Q E hr h => ⟨_,
      (pss_cons (ps_expr (pe_fn (takes_of rfl rfl rfl rfl) c_place_word (hr.mono (by decide)) (by rfl) (pa_cons (pv 1) pa_nil)))
        (pss_one (ps_dput (hu_of hr) (pe_fldC (T.cls 73) (T.noat 80) (pv 0)) (pv 1) pe_bl rfl))), ?rd⟩)
  case len => obtain ⟨b, dx, d, ps, v, rfl, _⟩ := h; rfl
  case rd =>
    obtain ⟨b, dx, d, ps, v, rfl, B, hl, th, h⟩ := h
    walk_at "w2"
    rcases th with ⟨n, rfl⟩ | o
    · rw [x_place_word]
      rw [placeW_int] at h
      split
      · rename_i c
        rw [if_pos c] at h
        walk_at "w2"
        refine ⟨_, fldIs B.ob, ?_⟩
        walk_at "w2"
        refine ⟨_, dput_i B.ds (by unfold bk; rw [List.length_map, sizeLine_eq]; omega), ?_⟩
        rw [put_bk]
        exact h
      · rename_i c
        rw [if_neg c] at h
        exact h
    · rw [odd_place_word o]
      rw [placeW_odd o] at h
      exact h
theorem f_Book_places (T : Tx K mg) : Mt P w K mg base 1 "Book" "places" ["self"] (sp_Book_places K) := by
  refine T.mkMt 14 78 73 (d := d_Book_places) (N := ["self"]) (k := 0) rfl rfl rfl rfl rfl rfl sc_Book_places (fun _ _ _ _ _ _ us hl => match us, hl with | [_], _ => rfl) (fun vs H Q E h => ?len) (fun cdv A outer s H vs Q E hr h => ⟨_,
      (pss_one (ps_ret (pe_callB (call_sortedK (K := K) rfl) (by rfl) (T.free 45) (by decide +kernel) (pa_cons (pe_callTy (call_listD rfl) (by rfl) (T.free 50) (by decide +kernel) (pa_cons (pe_fldC (T.cls 73) (T.noat 80) (pv 0)) pa_nil)) pa_nil)))), ?rd⟩)
  case len => obtain ⟨b, dx, d, ps, rfl, _⟩ := h; rfl
  case rd =>
    obtain ⟨b, dx, d, ps, rfl, B, hl, q⟩ := h
    walk_at "w2"
    refine ⟨_, fldIs B.ob, d, _, rfl, .inl B.ds, fun p hp => ?_⟩
    rw [key_bk]
    have s1 := same_new (o := .lst (ps.map V.int)) hp
    refine ⟨p, ps, rfl, .of upd_same, fun ns r hp' hs hr => ?_⟩
    have s2 := same_new (o := .lst (ns.map V.int)) hr
    exact q ns r _ hp' hs (none_of s1 hr) (s1.trans s2) upd_same
end

local macro_rules | `(tactic| walk_at "w2") => `(tactic| try simp only [↓x_var0, ↓x_varS, ↓x_c, ↓x_op, ↓x_un, ↓x_cb, ↓x_nil, ↓x_cons, ↓x_test, ↓x_b, ↓x_ex, ↓x_and, ↓x_or, ↓x_not, ↓x_andV, ↓x_orV, ↓x_notV, ↓x_tif, ↓x_chain, ↓x_menu, ↓x_menuI, ↓x_lst, ↓x_tup, ↓x_dnew, ↓x_callW, ↓x_callN, ↓x_seq, ↓x_next, ↓x_ret, ↓x_retN, ↓x_drop, ↓x_ifS, ↓x_asg, ↓x_name, ↓x_raise, ↓x_fld, ↓x_setF, ↓x_meth, ↓x_make, ↓x_sub, ↓r_min, ↓r_max, ↓x_yes, ↓x_for, ↓x_cut, ↓x_lc, ↓x_rng1, ↓x_rng2, ↓x_lst1, ↓x_itup, ↓x_rng3, ↓x_three, ↓x_lstg, ↓x_tupg, ↓x_adrS, ↓x_one, ↓x_two, ↓x_adr, ↓x_sl, ↓x_np, ↓x_pt, ↓x_int, ↓x_bm, ↓x_bm0, ↓x_consg, ↓x_nilg, ↓x_dget2, ↓x_dget1, ↓x_dget, ↓x_din, ↓x_dni, ↓x_dput, ↓x_dpop2, ↓r_isB, ↓r_notB, ↓x_enum, wipe, List.map_cons, List.map_nil, ↓x_isT, ↓r_isiII, ↓r_isiBB, ↓r_isiIB, ↓r_isiSS, ↓r_neNS, ↓r_neSN, ↓r_neNN, ↓r_eqNS, ↓r_eqSN, ↓r_eqNN, ↓r_eqIS, ↓r_neIS, ↓r_neSI, ↓r_neBS, ↓r_eqBB, ↓r_neBB, ↓x_start, ↓x_K, ↓x_start0, ↓r_i0, ↓r_i, ↓r_u, ↓r_addI, ↓r_addS, ↓r_mulI, ↓r_mulS, ↓r_eqI, ↓r_neI, ↓r_eqS, ↓r_neS, ↓r_absI, ↓r_intI, ↓r_intB, List.length_cons, List.length_nil, List.replicate, List.set_cons_zero, List.set_cons_succ, decide_eq_true_eq, Bool.not_eq_true', decide_eq_false_iff_not, if_true, if_false, Bool.false_eq_true, Bool.true_eq_false, ite_true, ite_false, Bool.not_true, Bool.not_false, c_div, n_ten, c_pow, not_true_eq_false, not_false_eq_true, decide_true, decide_false, true_and, and_true, and_self, true_or, or_true, Int.reduceLT, Int.reduceLE, Int.reduceMul, Int.reduceAdd, Int.reduceSub, Int.reducePow, Int.reduceNeg, Int.reduceDiv, Int.reduceMod, Nat.reducePow, Int.reduceToNat, Int.reduceEq, Int.reduceNe, Nat.reduceLT, Nat.reduceLeDiff, Nat.reduceAdd, ↓x_whole, ↓x_kind])
/-! ## weak names -/
def flatN : V → Bool
  | .non => true
  | .int _ => true
  | _ => false
theorem flatN_I {v : V} (h : flatN v = true) : flatI v = true := by cases v <;> first | rfl | cases h
structure WeakO (K : PySem.W.Frag) (H : Hp) (w dx l : Addr) (ts : List V) : Prop where
  ob : H w = some (.ins (He.ga K "Weak") dx (F_Weak (.ref l)))
  ls : H l = some (.lst ts)
theorem WeakO.same {K H H' w dx l ts} (h : WeakO K H w dx l ts) (s : Same H H') : WeakO K H' w dx l ts := ⟨s _ _ h.ob, s _ _ h.ls⟩
theorem WeakO.ne {K H w dx l ts} (h : WeakO K H w dx l ts) : w ≠ l := ne_of h.ob h.ls (by intro z; cases z)
theorem WeakO.put {K H w dx l ts} (h : WeakO K H w dx l ts) {us : List V} : WeakO K (upd H l (.lst us)) w dx l us := ⟨by rw [upd_ne h.ne]; exact h.ob, upd_same⟩
/-- the names that are there, with their places -/
def pairsOf : Nat → List V → List (List V)
  | _, [] => []
  | k, v :: r => if v = .non then pairsOf (k + 1) r else [.int (k : Int), v] :: pairsOf (k + 1) r
theorem pairsOf_snoc {ts : List V} {v : V} : ∀ k, pairsOf k (ts ++ [v]) = pairsOf k ts ++ (if v = .non then [] else [[.int ((k + ts.length : Nat) : Int), v]]) := by
  induction ts with
  | nil =>
    intro k
    show (if v = .non then pairsOf (k + 1) [] else [.int (k : Int), v] :: pairsOf (k + 1) []) = _
    split <;> rfl
  | cons t r ih =>
    intro k
    show (if t = .non then pairsOf (k + 1) (r ++ [v]) else [.int (k : Int), t] :: pairsOf (k + 1) (r ++ [v])) = (if t = .non then pairsOf (k + 1) r else [.int (k : Int), t] :: pairsOf (k + 1) r) ++ _
    rw [ih (k + 1)]
    have e : k + 1 + r.length = k + (t :: r).length := by rw [List.length_cons]; omega
    rw [e]
    split <;> rfl
theorem pairsOf_len {ts : List V} : ∀ k, (pairsOf k ts).length ≤ ts.length := by
  induction ts with
  | nil => exact fun _ => Nat.le_refl _
  | cons t r ih =>
    intro k
    show (if t = .non then pairsOf (k + 1) r else [.int (k : Int), t] :: pairsOf (k + 1) r).length ≤ r.length + 1
    have := ih (k + 1)
    split
    · omega
    · show (pairsOf (k + 1) r).length + 1 ≤ r.length + 1
      omega
theorem pairsOf_mem {ts : List V} (fl : ∀ t ∈ ts, flatN t = true) : ∀ k, ∀ xs ∈ pairsOf k ts, ∃ i n : Int, xs = [.int i, .int n] := by
  induction ts with
  | nil => exact fun k xs h => (List.not_mem_nil h).elim
  | cons t r ih =>
    intro k xs h
    have h : xs ∈ (if t = .non then pairsOf (k + 1) r else [.int (k : Int), t] :: pairsOf (k + 1) r) := h
    have ih := ih (fun t h => fl t (List.mem_cons_of_mem _ h)) (k + 1) xs
    split at h
    · exact ih h
    · rename_i c
      rcases List.mem_cons.mp h with rfl | h
      · have f := fl t (List.mem_cons_self)
        cases t with
        | int n => exact ⟨_, _, rfl⟩
        | non => exact absurd rfl c
        | _ => cases f
      · exact ih h
def sp_Weak___init__ (K : PySem.W.Frag) : Sp := fun vs H Q _ => ∃ w dx, vs = [.ref w] ∧ H w = some (.ins (He.ga K "Weak") dx []) ∧ ∀ l H', H l = none → WeakO K H' w dx l [] → (∀ c o, c ≠ w → H c = some o → H' c = some o) → Q .non H'
def sp_Weak_name (K : PySem.W.Frag) : Sp := fun vs H Q E => ∃ w dx l ts v, vs = [.ref w, v] ∧ WeakO K H w dx l ts ∧ ts.length < 1000000 ∧ Thing H v ∧ match placeW v with
  | some n => Q (.int ts.length) (upd H l (.lst (ts ++ [.int n])))
  | none => E (Ex K "NoPlace") none H
def sp_Weak_need (K : PySem.W.Frag) : Sp := fun vs H Q E => ∃ w dx l ts v, vs = [.ref w, v] ∧ WeakO K H w dx l ts ∧ Thing H v ∧ match placeOf ts.length v with
  | some _ => Q .non H
  | none => E (Ex K "NoName") none H
def sp_Weak_at (K : PySem.W.Frag) : Sp := fun vs H Q E => ∃ w dx l ts v, vs = [.ref w, v] ∧ WeakO K H w dx l ts ∧ Thing H v ∧ match placeOf ts.length v with
  | some i => Q (ts.getD i .non) H
  | none => E (Ex K "NoName") none H
def sp_Weak_need_there (K : PySem.W.Frag) : Sp := fun vs H Q E => ∃ w dx l ts v, vs = [.ref w, v] ∧ WeakO K H w dx l ts ∧ Thing H v ∧ match placeOf ts.length v with
  | some i => if ts.getD i .non = .non then E (Ex K "NoName") none H else Q .non H
  | none => E (Ex K "NoName") none H
def sp_Weak_move (K : PySem.W.Frag) : Sp := fun vs H Q E => ∃ w dx l ts v z, vs = [.ref w, v, z] ∧ WeakO K H w dx l ts ∧ Thing H v ∧ Thing H z ∧ match placeOf ts.length v with
  | some i => if ts.getD i .non = .non then E (Ex K "NoName") none H else match placeW z with
    | some n => Q .non (upd H l (.lst (ts.set i (.int n))))
    | none => E (Ex K "NoPlace") none H
  | none => E (Ex K "NoName") none H
def sp_Weak_gone (K : PySem.W.Frag) : Sp := fun vs H Q E => ∃ w dx l ts v, vs = [.ref w, v] ∧ WeakO K H w dx l ts ∧ Thing H v ∧ match placeOf ts.length v with
  | some i => if ts.getD i .non = .non then E (Ex K "NoName") none H else Q .non (upd H l (.lst (ts.set i .non)))
  | none => E (Ex K "NoName") none H
def sp_Weak_names (K : PySem.W.Frag) : Sp := fun vs H Q _ => ∃ w dx l ts, vs = [.ref w] ∧ WeakO K H w dx l ts ∧ ts.length < 1000000 ∧ (∀ t ∈ ts, flatN t = true) ∧ ∀ p rs H', H p = none → Same H H' → H' p = some (.lst rs) → TupAll H' rs (pairsOf 0 ts) → Q (.ref p) H'
section
variable {P : Program} {w : World} {K : PySem.W.Frag} {mg : Str → Option Value} {base : Heap}
theorem f_Weak___init__ (T : Tx K mg) : Mi P w K mg base 1 "Weak" ["self"] (sp_Weak___init__ K) := by
  refine T.mkMi 23 92 17 (d := d_Weak___init__) (N := ["self"]) (k := 0) rfl rfl rfl rfl rfl rfl sc_Weak___init__ (fun _ _ _ _ _ _ us hl => match us, hl with | [_], _ => rfl) (fun vs H Q E h => ?len) (fun cdv A outer s H vs Q E hr h => ⟨_,
      (pss_one (ps_fldC (T.cls 91) (T.noat 100) (pv 0) (pe_lst pa_nil))), ?rd⟩)
  case len => obtain ⟨w', dx, rfl, _⟩ := h; rfl
  case rd =>
    obtain ⟨b, dx, rfl, M, q⟩ := h
    walk_at "w2"
    refine ⟨by omega, fun d hd => ?_⟩
    have nb : b ≠ d := ne_of_none M hd
    refine ⟨b, dx, _, rfl, by rw [upd_ne nb]; exact M, by decide, ?_⟩
    rw [pi_Weak_told]
    exact q d _ hd ⟨upd_same, by rw [upd_ne nb.symm]; exact upd_same⟩ fun c o hc e => by rw [upd_ne hc, upd_ne (ne_of_none e hd)]; exact e
theorem f_Weak_name (T : Tx K mg) : Mt P w K mg base 3 "Weak" "name" ["self", "at"] (sp_Weak_name K) := by
  have c_place_word := f_place_word (P := P) (w := w) (base := base) T
  refine T.mkMt 24 93 91 (d := d_Weak_name) (N := ["self", "at"]) (k := 2) rfl rfl rfl rfl rfl rfl sc_Weak_name (fun _ _ _ _ _ _ us hl => match us, hl with | [_, _], _ => rfl) (fun vs H Q E h => ?len) (fun cdv A outer s H vs Q E hr h => ⟨_,
      (pss_cons (ps_expr (pe_fn (takes_of rfl rfl rfl rfl) c_place_word (hr.mono (by decide)) (by rfl) (pa_cons (pv 1) pa_nil)))
        (pss_cons (ps_expr (pe_bm PySem.F.plainAttrs_list PySem.F.slot_list_append PySem.F.type_list_append mt_append (pe_fldC (T.cls 91) (T.noat 100) (pv 0)) (pa_cons (pv 1) pa_nil)))
        (pss_one (ps_ret (pe_op op_sub (pe_callB (call_lenK (K := K) rfl) (by rfl) (T.free 42) PySem.boot_len (pa_cons (pe_fldC (T.cls 91) (T.noat 100) (pv 0)) pa_nil)) pe_int))))), ?rd⟩)
  case len => obtain ⟨w', dx, l, ts, v, rfl, _⟩ := h; rfl
  case rd =>
    obtain ⟨b, dx, l, ts, v, rfl, B, hl, th, h⟩ := h
    walk_at "w2"
    rcases th with ⟨n, rfl⟩ | o
    · rw [x_place_word]
      rw [placeW_int] at h
      split
      · rename_i c
        rw [if_pos c] at h
        walk_at "w2"
        refine ⟨_, fldIs B.ob, r_app B.ls (by rw [sizeLine_eq]; omega) ?_⟩
        walk_at "w2"
        have B2 := B.put (us := ts ++ [.int n])
        refine ⟨_, fldIs B2.ob, r_lenL B2.ls ?_⟩
        walk_at "w2"
        have e : (((ts ++ [V.int n]).length : Nat) : Int) - 1 = (ts.length : Int) := by rw [List.length_append]; show ((ts.length + 1 : Nat) : Int) - 1 = _; omega
        rw [e]
        exact h
      · rename_i c
        rw [if_neg c] at h
        exact h
    · rw [odd_place_word o]
      rw [placeW_odd o] at h
      exact h
theorem f_Weak_need (T : Tx K mg) : Mt P w K mg base 2 "Weak" "need" ["self", "name"] (sp_Weak_need K) := by
  have c_is_whole := f_is_whole (P := P) (w := w) (base := base) T
  refine T.mkMt 25 94 91 (d := d_Weak_need) (N := ["self", "name"]) (k := 1) rfl rfl rfl rfl rfl rfl sc_Weak_need (fun _ _ _ _ _ _ us hl => match us, hl with | [_, _], _ => rfl) (fun vs H Q E h => ?len) (fun cdv A outer s H vs Q E hr h => ⟨_,
      (pss_one (ps_if (PW.pt (pw_or (pt_not (pt_val (pe_fn (takes_of rfl rfl rfl rfl) c_is_whole (hr.mono (by decide)) (by rfl) (pa_cons (pv 1) pa_nil)))) (pw_or1 (pt_not (pt_chain op_le op_lt pe_int (pv 1) (pe_callB (call_lenK (K := K) rfl) (by rfl) (T.free 42) PySem.boot_len (pa_cons (pe_fldC (T.cls 91) (T.noat 100) (pv 0)) pa_nil))))))) (pss_one (ps_raiseK (K := K) rfl rfl (takes_of rfl rfl rfl rfl) (T.says.fact 62 rfl) (T.glo 10) (by rfl))) pss_nil)), ?rd⟩)
  case len => obtain ⟨w', dx, l, ts, v, rfl, _⟩ := h; rfl
  case rd =>
    obtain ⟨b, dx, l, ts, v, rfl, B, th, h⟩ := h
    walk_at "w2"
    rcases th with ⟨n, rfl⟩ | o
    · walk_at "w2"
      rw [placeOf_int] at h
      split
      · refine ⟨_, fldIs B.ob, r_lenL B.ls ?_⟩
        walk_at "w2"
        split
        · rw [if_neg (by omega)] at h
          exact h
        · rw [if_pos (by omega)] at h
          exact h
      · rw [if_neg (by omega)] at h
        exact h
    · rw [odd_whole o]
      rw [placeOf_odd o] at h
      walk_at "w2"
      exact h
theorem f_Weak_at (T : Tx K mg) : Mt P w K mg base 3 "Weak" "at" ["self", "name"] (sp_Weak_at K) := by
  have c_Weak_need := f_Weak_need (P := P) (w := w) (base := base) T
  refine T.mkMt 26 95 91 (d := d_Weak_at) (N := ["self", "name"]) (k := 2) rfl rfl rfl rfl rfl rfl sc_Weak_at (fun _ _ _ _ _ _ us hl => match us, hl with | [_, _], _ => rfl) (fun vs H Q E h => ?len) (fun cdv A outer s H vs Q E hr h => ⟨_,
      (pss_cons (ps_expr (pe_mt (K := K) rfl (takes_of rfl rfl rfl rfl) (pv 0) c_Weak_need (hr.mono (by decide)) (pa_cons (pv 1) pa_nil)))
        (pss_one (ps_ret (pe_ix (ix_seqK (K := K) rfl) (pe_fldC (T.cls 91) (T.noat 100) (pv 0)) (pv 1) (fun _ _ => rfl))))), ?rd⟩)
  case len => obtain ⟨w', dx, l, ts, v, rfl, _⟩ := h; rfl
  case rd =>
    obtain ⟨b, dx, l, ts, v, rfl, B, th, h⟩ := h
    walk_at "w2"
    refine ⟨recv B.ob, b, dx, l, ts, v, rfl, B, th, ?_⟩
    cases e : placeOf ts.length v with
    | none =>
      rw [e] at h
      exact h
    | some i =>
      rw [e] at h
      obtain ⟨rfl, hi⟩ := placeOf_some e
      refine ⟨_, fldIs B.ob, ?_⟩
      exact r_ixL B.ls (by rw [List.getElem?_eq_getElem hi, List.getD_eq_getElem?_getD, List.getElem?_eq_getElem hi]; rfl) h
theorem f_Weak_need_there (T : Tx K mg) : Mt P w K mg base 3 "Weak" "need_there" ["self", "name"] (sp_Weak_need_there K) := by
  have c_Weak_need := f_Weak_need (P := P) (w := w) (base := base) T
  refine T.mkMt 27 96 91 (d := d_Weak_need_there) (N := ["self", "name"]) (k := 2) rfl rfl rfl rfl rfl rfl sc_Weak_need_there (fun _ _ _ _ _ _ us hl => match us, hl with | [_, _], _ => rfl) (fun vs H Q E h => ?len) (fun cdv A outer s H vs Q E hr h => ⟨_,
      (pss_cons (ps_expr (pe_mt (K := K) rfl (takes_of rfl rfl rfl rfl) (pv 0) c_Weak_need (hr.mono (by decide)) (pa_cons (pv 1) pa_nil)))
        (pss_one (ps_if (pt_cmpR op_isN (pe_ix (ix_seqK (K := K) rfl) (pe_fldC (T.cls 91) (T.noat 100) (pv 0)) (pv 1) (fun _ _ => rfl)) pe_non (nomark _)) (pss_one (ps_raiseK (K := K) rfl rfl (takes_of rfl rfl rfl rfl) (T.says.fact 62 rfl) (T.glo 10) (by rfl))) pss_nil))), ?rd⟩)
  case len => obtain ⟨w', dx, l, ts, v, rfl, _⟩ := h; rfl
  case rd =>
    obtain ⟨b, dx, l, ts, v, rfl, B, th, h⟩ := h
    walk_at "w2"
    refine ⟨recv B.ob, b, dx, l, ts, v, rfl, B, th, ?_⟩
    cases e : placeOf ts.length v with
    | none =>
      rw [e] at h
      exact h
    | some i =>
      rw [e] at h
      obtain ⟨rfl, hi⟩ := placeOf_some e
      have h : if ts.getD i .non = .non then E (Ex K "NoName") none H else Q .non H := h
      walk_at "w2"
      refine ⟨_, fldIs B.ob, ?_⟩
      refine r_ixL B.ls (v := ts.getD i .non) (by rw [List.getElem?_eq_getElem hi, List.getD_eq_getElem?_getD, List.getElem?_eq_getElem hi]; rfl) ?_
      walk_at "w2"
      exact h
theorem f_Weak_gone (T : Tx K mg) : Mt P w K mg base 4 "Weak" "gone" ["self", "name"] (sp_Weak_gone K) := by
  have c_Weak_need_there := f_Weak_need_there (P := P) (w := w) (base := base) T
  refine T.mkMt 29 98 91 (d := d_Weak_gone) (N := ["self", "name"]) (k := 3) rfl rfl rfl rfl rfl rfl sc_Weak_gone (fun _ _ _ _ _ _ us hl => match us, hl with | [_, _], _ => rfl) (fun vs H Q E h => ?len) (fun cdv A outer s H vs Q E hr h => ⟨_,
      (pss_cons (ps_expr (pe_mt (K := K) rfl (takes_of rfl rfl rfl rfl) (pv 0) c_Weak_need_there (hr.mono (by decide)) (pa_cons (pv 1) pa_nil)))
        (pss_one (ps_asg pe_non (pg_sub (pe_fldC (T.cls 91) (T.noat 100) (pv 0)) (pv 1) set_list)))), ?rd⟩)
  case len => obtain ⟨w', dx, l, ts, v, rfl, _⟩ := h; rfl
  case rd =>
    obtain ⟨b, dx, l, ts, v, rfl, B, th, h⟩ := h
    walk_at "w2"
    refine ⟨recv B.ob, b, dx, l, ts, v, rfl, B, th, ?_⟩
    cases e : placeOf ts.length v with
    | none =>
      rw [e] at h
      exact h
    | some i =>
      rw [e] at h
      obtain ⟨rfl, hi⟩ := placeOf_some e
      have h : if ts.getD i .non = .non then E (Ex K "NoName") none H else Q .non (upd H l (.lst (ts.set i .non))) := h
      show if ts.getD i .non = .non then _ else _
      split
      · rename_i c
        rw [if_pos c] at h
        exact h
      · rename_i c
        rw [if_neg c] at h
        walk_at "w2"
        refine ⟨_, fldIs B.ob, r_setL B.ls (by omega) (by omega) ?_⟩
        rw [Int.toNat_natCast]
        exact h
end

local macro_rules | `(tactic| walk_at "w2") => `(tactic| try simp only [↓x_var0, ↓x_varS, ↓x_c, ↓x_op, ↓x_un, ↓x_cb, ↓x_nil, ↓x_cons, ↓x_test, ↓x_b, ↓x_ex, ↓x_and, ↓x_or, ↓x_not, ↓x_andV, ↓x_orV, ↓x_notV, ↓x_tif, ↓x_chain, ↓x_menu, ↓x_menuI, ↓x_lst, ↓x_tup, ↓x_dnew, ↓x_callW, ↓x_callN, ↓x_seq, ↓x_next, ↓x_ret, ↓x_retN, ↓x_drop, ↓x_ifS, ↓x_asg, ↓x_name, ↓x_raise, ↓x_fld, ↓x_setF, ↓x_meth, ↓x_make, ↓x_sub, ↓r_min, ↓r_max, ↓x_yes, ↓x_for, ↓x_cut, ↓x_lc, ↓x_rng1, ↓x_rng2, ↓x_lst1, ↓x_itup, ↓x_rng3, ↓x_three, ↓x_lstg, ↓x_tupg, ↓x_adrS, ↓x_one, ↓x_two, ↓x_adr, ↓x_sl, ↓x_np, ↓x_pt, ↓x_int, ↓x_bm, ↓x_bm0, ↓x_consg, ↓x_nilg, ↓x_dget2, ↓x_dget1, ↓x_dget, ↓x_din, ↓x_dni, ↓x_dput, ↓x_dpop2, ↓r_isB, ↓r_notB, ↓x_enum, wipe, List.map_cons, List.map_nil, ↓x_isT, ↓r_isiII, ↓r_isiBB, ↓r_isiIB, ↓r_isiSS, ↓r_neNS, ↓r_neSN, ↓r_neNN, ↓r_eqNS, ↓r_eqSN, ↓r_eqNN, ↓r_eqIS, ↓r_neIS, ↓r_neSI, ↓r_neBS, ↓r_eqBB, ↓r_neBB, ↓x_start, ↓x_K, ↓x_start0, ↓r_i0, ↓r_i, ↓r_u, ↓r_addI, ↓r_addS, ↓r_mulI, ↓r_mulS, ↓r_eqI, ↓r_neI, ↓r_eqS, ↓r_neS, ↓r_absI, ↓r_intI, ↓r_intB, List.length_cons, List.length_nil, List.replicate, List.set_cons_zero, List.set_cons_succ, decide_eq_true_eq, Bool.not_eq_true', decide_eq_false_iff_not, if_true, if_false, Bool.false_eq_true, Bool.true_eq_false, ite_true, ite_false, Bool.not_true, Bool.not_false, c_div, n_ten, c_pow, not_true_eq_false, not_false_eq_true, decide_true, decide_false, true_and, and_true, and_self, true_or, or_true, Int.reduceLT, Int.reduceLE, Int.reduceMul, Int.reduceAdd, Int.reduceSub, Int.reducePow, Int.reduceNeg, Int.reduceDiv, Int.reduceMod, Nat.reducePow, Int.reduceToNat, Int.reduceEq, Int.reduceNe, Nat.reduceLT, Nat.reduceLeDiff, Nat.reduceAdd, ↓x_whole, ↓x_kind])
/-! ## last words -/
/-- what waits: nothing, or a place and a number -/
structure WtAll (H : Hp) (rs : List V) (ws : List (Option (Int × Int))) : Prop where
  len : rs.length = ws.length
  non : ∀ i : Nat, ws[i]? = some none → rs[i]? = some V.non
  pair : ∀ (i : Nat) a n, ws[i]? = some (some (a, n)) → ∃ tp, rs[i]? = some (V.ref tp) ∧ H tp = some (.tup [.int a, .int n])
theorem WtAll.nil {H : Hp} : WtAll H [] [] := ⟨rfl, fun i e => (by cases e), fun i a n e => by cases e⟩
theorem WtAll.fr {H H' : Hp} {rs ws} (h : WtAll H rs ws) (s : ∀ c xs, H c = some (.tup xs) → H' c = some (.tup xs)) : WtAll H' rs ws := ⟨h.len, h.non, fun i a n e => let ⟨tp, e1, e2⟩ := h.pair i a n e; ⟨tp, e1, s _ _ e2⟩⟩
theorem WtAll.same {H H' : Hp} {rs ws} (h : WtAll H rs ws) (s : Same H H') : WtAll H' rs ws := h.fr fun c xs e => s _ _ e
theorem WtAll.put {H : Hp} {rs ws} {D : Addr} {o o' : HO} (h : WtAll H rs ws) (e : H D = some o) (n : ∀ xs, o ≠ .tup xs) : WtAll (upd H D o') rs ws := h.fr fun c xs e' => by rw [upd_ne (ne_of e' e fun z => n _ z.symm)]; exact e'
theorem WtAll.snoc {H : Hp} {rs ws} {tp : Addr} {a n : Int} (h : WtAll H rs ws) (e : H tp = some (.tup [.int a, .int n])) : WtAll H (rs ++ [.ref tp]) (ws ++ [some (a, n)]) := by
  have l := h.len
  refine ⟨by rw [List.length_append, List.length_append, l]; rfl, fun i q => ?_, fun i b m q => ?_⟩
  · rw [List.getElem?_append] at q ⊢
    rw [l]
    split at q
    · rw [if_pos ‹_›]
      exact h.non i q
    · cases h2 : i - ws.length with
      | zero => rw [h2] at q; cases q
      | succ k => rw [h2] at q; cases q
  · rw [List.getElem?_append] at q ⊢
    rw [l]
    split at q
    · rw [if_pos ‹_›]
      exact h.pair i b m q
    · rw [if_neg ‹_›]
      cases h2 : i - ws.length with
      | zero =>
        rw [h2] at q
        cases q
        exact ⟨tp, rfl, e⟩
      | succ k => rw [h2] at q; cases q
theorem WtAll.set {H : Hp} {rs ws} {j : Nat} {tp : Addr} {a n : Int} (h : WtAll H rs ws) (e : H tp = some (.tup [.int a, .int n])) : WtAll H (rs.set j (.ref tp)) (ws.set j (some (a, n))) := by
  have l := h.len
  refine ⟨by rw [List.length_set, List.length_set, l], fun i q => ?_, fun i b m q => ?_⟩
  · rw [List.getElem?_set] at q ⊢
    rw [l]
    split at q
    · split at q
      · cases q
      · cases q
    · rw [if_neg ‹_›]
      exact h.non i q
  · rw [List.getElem?_set] at q ⊢
    rw [l]
    split at q
    · rename_i c
      rw [if_pos c]
      split at q
      · cases q
        rw [if_pos ‹_›]
        exact ⟨tp, rfl, e⟩
      · cases q
    · rw [if_neg ‹_›]
      exact h.pair i b m q
theorem WtAll.rub {H : Hp} {rs ws} {j : Nat} (h : WtAll H rs ws) : WtAll H (rs.set j .non) (ws.set j none) := by
  have l := h.len
  refine ⟨by rw [List.length_set, List.length_set, l], fun i q => ?_, fun i b m q => ?_⟩
  · rw [List.getElem?_set] at q ⊢
    rw [l]
    split at q
    · rename_i c
      rw [if_pos c]
      split at q
      · rw [if_pos ‹_›]
      · cases q
    · rw [if_neg ‹_›]
      exact h.non i q
  · rw [List.getElem?_set] at q ⊢
    rw [l]
    split at q
    · split at q
      · cases q
      · cases q
    · rw [if_neg ‹_›]
      exact h.pair i b m q
def pendOf : Nat → List (Option (Int × Int)) → List (List V)
  | _, [] => []
  | k, none :: r => pendOf (k + 1) r
  | k, some (a, n) :: r => [.int (k : Int), .int a, .int n] :: pendOf (k + 1) r
def pendAt (k : Nat) : Option (Int × Int) → List (List V)
  | none => []
  | some (a, n) => [[.int (k : Int), .int a, .int n]]
theorem pendOf_snoc {ws : List (Option (Int × Int))} {w : Option (Int × Int)} : ∀ k, pendOf k (ws ++ [w]) = pendOf k ws ++ pendAt (k + ws.length) w := by
  induction ws with
  | nil =>
    intro k
    cases w <;> rfl
  | cons t r ih =>
    intro k
    have e : k + (t :: r).length = k + 1 + r.length := by rw [List.length_cons]; omega
    rw [e]
    cases t with
    | none => exact ih (k + 1)
    | some p => exact congrArg (_ :: ·) (ih (k + 1))
theorem pendOf_len {ws : List (Option (Int × Int))} : ∀ k, (pendOf k ws).length ≤ ws.length := by
  induction ws with
  | nil => exact fun _ => Nat.le_refl _
  | cons t r ih =>
    intro k
    have := ih (k + 1)
    cases t with
    | none =>
      show (pendOf (k + 1) r).length ≤ r.length + 1
      omega
    | some p =>
      show (pendOf (k + 1) r).length + 1 ≤ r.length + 1
      omega
theorem pendOf_mem {ws : List (Option (Int × Int))} : ∀ k, ∀ xs ∈ pendOf k ws, ∃ i a n : Int, xs = [.int i, .int a, .int n] := by
  induction ws with
  | nil => exact fun k xs h => (List.not_mem_nil h).elim
  | cons t r ih =>
    intro k xs h
    cases t with
    | none => exact ih (k + 1) xs h
    | some p =>
      rcases List.mem_cons.mp h with rfl | h
      · exact ⟨_, _, _, rfl⟩
      · exact ih (k + 1) xs h
def numW : V → Option Int
  | .int n => if (n.natAbs : Int) ≤ 1000000000000 then some n else none
  | _ => none
theorem numW_int {n : Int} : numW (.int n) = if (n.natAbs : Int) ≤ 1000000000000 then some n else none := rfl
theorem numW_odd {H : Hp} {v : V} (h : Odd H v) : numW v = none := by
  cases v with
  | int i => exact (odd_not h).elim
  | _ => rfl
theorem numW_some {v : V} {n : Int} (h : numW v = some n) : v = .int n ∧ (n.natAbs : Int) ≤ 1000000000000 := by
  cases v with
  | int j =>
    rw [numW_int] at h
    split at h
    · cases h
      exact ⟨rfl, ‹_›⟩
    · cases h
  | _ => cases h
structure LastO (K : PySem.W.Frag) (H : Hp) (b dx d e : Addr) (rs : List V) (ws : List (Option (Int × Int))) (ss : List Int) : Prop where
  ob : H b = some (.ins (He.ga K "Lasts") dx (F_Lasts (.ref d) (.ref e)))
  wa : H d = some (.lst rs)
  wt : WtAll H rs ws
  sk : H e = some (.lst (ss.map V.int))
  de : d ≠ e
theorem LastO.same {K H H' b dx d e rs ws ss} (h : LastO K H b dx d e rs ws ss) (s : Same H H') : LastO K H' b dx d e rs ws ss := ⟨s _ _ h.ob, s _ _ h.wa, h.wt.same s, s _ _ h.sk, h.de⟩
theorem LastO.putD {K H b dx d e rs ws ss rs' ws'} (h : LastO K H b dx d e rs ws ss) (t : WtAll H rs' ws') : LastO K (upd H d (.lst rs')) b dx d e rs' ws' ss :=
  ⟨by rw [upd_ne (ne_of h.ob h.wa (by intro z; cases z))]; exact h.ob, upd_same, t.put h.wa (by intro xs z; cases z), by rw [upd_ne h.de.symm]; exact h.sk, h.de⟩
theorem LastO.putE {K H b dx d e rs ws ss ss'} (h : LastO K H b dx d e rs ws ss) : LastO K (upd H e (.lst (ss'.map V.int))) b dx d e rs ws ss' :=
  ⟨by rw [upd_ne (ne_of h.ob h.sk (by intro z; cases z))]; exact h.ob, by rw [upd_ne h.de]; exact h.wa, h.wt.put h.sk (by intro xs z; cases z), upd_same, h.de⟩
/-- the pair that waits at a ticket -/
def tickOf (ws : List (Option (Int × Int))) (v : V) : Option (Nat × Int × Int) := match placeOf ws.length v with
  | none => none
  | some i => match ws.getD i none with
    | none => none
    | some (a, n) => some (i, a, n)
theorem tick_some {ws v i a n} (h : tickOf ws v = some (i, a, n)) : v = .int (i : Int) ∧ i < ws.length ∧ ws[i]? = some (some (a, n)) := by
  unfold tickOf at h
  cases e : placeOf ws.length v with
  | none => rw [e] at h; cases h
  | some j =>
    rw [e] at h
    obtain ⟨e1, e2⟩ := placeOf_some e
    have ej := getD_at (d := none) e2
    have h : (match ws.getD j none with
      | none => none
      | some (a, n) => some (j, a, n)) = some (i, a, n) := h
    cases e3 : ws.getD j none with
    | none => rw [e3] at h; cases h
    | some p =>
      rw [e3] at h ej
      cases h
      exact ⟨e1, e2, ej⟩
def sp_Lasts___init__ (K : PySem.W.Frag) : Sp := fun vs H Q _ => ∃ b dx, vs = [.ref b] ∧ H b = some (.ins (He.ga K "Lasts") dx []) ∧ ∀ d e H', H d = none → H e = none → LastO K H' b dx d e [] [] [] → (∀ c o, c ≠ b → H c = some o → H' c = some o) → Q .non H'
def sp_Lasts_give (K : PySem.W.Frag) : Sp := fun vs H Q E => ∃ b dx d e rs ws ss v z, vs = [.ref b, v, z] ∧ LastO K H b dx d e rs ws ss ∧ ws.length < 1000000 ∧ Thing H v ∧ Thing H z ∧ match placeW v with
  | some a => (match numW z with
    | some n => ∀ H' rs', LastO K H' b dx d e rs' (ws ++ [some (a, n)]) ss → (∀ c o, c ≠ d → H c = some o → H' c = some o) → Q (.int ws.length) H'
    | none => E (Ex K "BadNumber") none H)
  | none => E (Ex K "NoPlace") none H
def sp_Lasts_need (K : PySem.W.Frag) : Sp := fun vs H Q E => ∃ b dx d e rs ws ss v, vs = [.ref b, v] ∧ LastO K H b dx d e rs ws ss ∧ Thing H v ∧ match tickOf ws v with
  | some _ => Q .non H
  | none => E (Ex K "NoName") none H
def sp_Lasts_move (K : PySem.W.Frag) : Sp := fun vs H Q E => ∃ b dx d e rs ws ss v z, vs = [.ref b, v, z] ∧ LastO K H b dx d e rs ws ss ∧ Thing H v ∧ Thing H z ∧ match tickOf ws v with
  | some (i, a, n) => (match placeW z with
    | some a' => ∀ H' rs', LastO K H' b dx d e rs' (ws.set i (some (a', n))) ss → (∀ c o, c ≠ d → H c = some o → H' c = some o) → Q .non H'
    | none => E (Ex K "NoPlace") none H)
  | none => E (Ex K "NoName") none H
def sp_Lasts_say (K : PySem.W.Frag) : Sp := fun vs H Q E => ∃ b dx d e rs ws ss v, vs = [.ref b, v] ∧ LastO K H b dx d e rs ws ss ∧ ss.length < 1000000 ∧ Thing H v ∧ match tickOf ws v with
  | some (i, a, n) => ∀ H' rs', LastO K H' b dx d e rs' (ws.set i none) (ss ++ [n]) → (∀ c o, c ≠ d → c ≠ e → H c = some o → H' c = some o) → Q .non H'
  | none => E (Ex K "NoName") none H
def sp_Lasts_pending (K : PySem.W.Frag) : Sp := fun vs H Q _ => ∃ b dx d e rs ws ss, vs = [.ref b] ∧ LastO K H b dx d e rs ws ss ∧ ws.length < 1000000 ∧ ∀ p ps H', H p = none → Same H H' → H' p = some (.lst ps) → TupAll H' ps (pendOf 0 ws) → Q (.ref p) H'
def sp_Lasts_said (K : PySem.W.Frag) : Sp := fun vs H Q _ => ∃ b dx d e rs ws ss, vs = [.ref b] ∧ LastO K H b dx d e rs ws ss ∧ ∀ p, H p = none → Q (.ref p) (upd H p (.lst (ss.map V.int)))
section
variable {P : Program} {w : World} {K : PySem.W.Frag} {mg : Str → Option Value} {base : Heap}
theorem f_Lasts___init__ (T : Tx K mg) : Mi P w K mg base 1 "Lasts" ["self"] (sp_Lasts___init__ K) := by
  refine T.mkMi 16 82 16 (d := d_Lasts___init__) (N := ["self"]) (k := 0) rfl rfl rfl rfl rfl rfl sc_Lasts___init__ (fun _ _ _ _ _ _ us hl => match us, hl with | [_], _ => rfl) (fun vs H Q E h => ?len) (fun cdv A outer s H vs Q E hr h => ⟨_,
      (pss_cons (ps_fldC (T.cls 81) (T.noat 89) (pv 0) (pe_lst pa_nil))
        (pss_one (ps_fldC (T.cls 81) (T.noat 90) (pv 0) (pe_lst pa_nil)))), ?rd⟩)
  case len => obtain ⟨b, dx, rfl, _⟩ := h; rfl
  case rd =>
    obtain ⟨b, dx, rfl, M, q⟩ := h
    walk_at "w2"
    refine ⟨by omega, fun d hd => ?_⟩
    have nb : b ≠ d := ne_of_none M hd
    refine ⟨b, dx, _, rfl, by rw [upd_ne nb]; exact M, by decide, by omega, fun e he => ?_⟩
    rw [pi_Lasts_waiting] at he ⊢
    have ed : e ≠ d := by
      intro z
      rw [z, upd_ne nb.symm, upd_same] at he
      cases he
    have eb : b ≠ e := by
      intro z
      rw [← z, upd_same] at he
      cases he
    have he0 : H e = none := by
      rw [upd_ne eb.symm, upd_ne ed] at he
      exact he
    refine ⟨b, dx, _, rfl, by rw [upd_ne eb, upd_same], by show 1 < 1000; decide, ?_⟩
    rw [pi_Lasts_spoken]
    refine q d e _ hd he0 ⟨upd_same, ?_, .nil, ?_, ed.symm⟩ fun c o hc g => ?_
    · rw [upd_ne nb.symm, upd_ne ed.symm, upd_ne nb.symm, upd_same]
    · rw [upd_ne eb.symm, upd_same]
      rfl
    · rw [upd_ne hc, upd_ne (ne_of_none g he0), upd_ne hc, upd_ne (ne_of_none g hd)]
      exact g
theorem f_Lasts_need (T : Tx K mg) : Mt P w K mg base 2 "Lasts" "need" ["self", "ticket"] (sp_Lasts_need K) := by
  have c_is_whole := f_is_whole (P := P) (w := w) (base := base) T
  refine T.mkMt 18 84 81 (d := d_Lasts_need) (N := ["self", "ticket"]) (k := 1) rfl rfl rfl rfl rfl rfl sc_Lasts_need (fun _ _ _ _ _ _ us hl => match us, hl with | [_, _], _ => rfl) (fun vs H Q E h => ?len) (fun cdv A outer s H vs Q E hr h => ⟨_,
      (pss_one (ps_if (PW.pt (pw_or (pt_not (pt_val (pe_fn (takes_of rfl rfl rfl rfl) c_is_whole (hr.mono (by decide)) (by rfl) (pa_cons (pv 1) pa_nil)))) (pw_or (pt_not (pt_chain op_le op_lt pe_int (pv 1) (pe_callB (call_lenK (K := K) rfl) (by rfl) (T.free 42) PySem.boot_len (pa_cons (pe_fldC (T.cls 81) (T.noat 89) (pv 0)) pa_nil)))) (pw_or1 (pt_cmpR op_isN (pe_ix (ix_seqK (K := K) rfl) (pe_fldC (T.cls 81) (T.noat 89) (pv 0)) (pv 1) (fun _ _ => rfl)) pe_non (nomark _)))))) (pss_one (ps_raiseK (K := K) rfl rfl (takes_of rfl rfl rfl rfl) (T.says.fact 62 rfl) (T.glo 10) (by rfl))) pss_nil)), ?rd⟩)
  case len => obtain ⟨b, dx, d, e, rs, ws, ss, v, rfl, _⟩ := h; rfl
  case rd =>
    obtain ⟨b, dx, d, e, rs, ws, ss, v, rfl, B, th, h⟩ := h
    walk_at "w2"
    have ll := B.wt.len
    rcases th with ⟨n, rfl⟩ | o
    · walk_at "w2"
      unfold tickOf at h
      rw [placeOf_int] at h
      split
      · refine ⟨_, fldIs B.ob, r_lenL B.wa ?_⟩
        walk_at "w2"
        split
        · rw [if_neg (by omega)] at h
          exact h
        · rename_i c0 c1
          rw [if_pos (by omega)] at h
          obtain ⟨i, rfl⟩ := Int.eq_ofNat_of_zero_le c0
          rw [Int.toNat_natCast] at h
          have hi : i < ws.length := by omega
          have ei := getD_at (d := none) hi
          refine ⟨_, fldIs B.ob, ?_⟩
          cases ew : ws.getD i none with
          | none =>
            rw [ew] at ei
            refine r_ixL B.wa (B.wt.non i ei) ?_
            walk_at "w2"
            have h : (match (match ws.getD i none with
              | none => none
              | some (a, n) => some (i, a, n)) with
              | some _ => Q .non H
              | none => E (Ex K "NoName") none H) := h
            rw [ew] at h
            exact h
          | some p =>
            rw [ew] at ei
            obtain ⟨tp, e1, e2⟩ := B.wt.pair i p.1 p.2 ei
            refine r_ixL B.wa e1 ?_
            walk_at "w2"
            have h : (match (match ws.getD i none with
              | none => none
              | some (a, n) => some (i, a, n)) with
              | some _ => Q .non H
              | none => E (Ex K "NoName") none H) := h
            rw [ew] at h
            first | exact h | (rw [if_neg (by intro z; cases z)]; exact h)
      · rw [if_neg (by omega)] at h
        exact h
    · rw [odd_whole o]
      unfold tickOf at h
      rw [placeOf_odd o] at h
      walk_at "w2"
      exact h
theorem f_Lasts_said (T : Tx K mg) : Mt P w K mg base 1 "Lasts" "said" ["self"] (sp_Lasts_said K) := by
  refine T.mkMt 22 88 81 (d := d_Lasts_said) (N := ["self"]) (k := 0) rfl rfl rfl rfl rfl rfl sc_Lasts_said (fun _ _ _ _ _ _ us hl => match us, hl with | [_], _ => rfl) (fun vs H Q E h => ?len) (fun cdv A outer s H vs Q E hr h => ⟨_,
      (pss_one (ps_ret (pe_callTy (call_listK (K := K) rfl) (by rfl) (T.free 50) (by decide +kernel) (pa_cons (pe_fldC (T.cls 81) (T.noat 90) (pv 0)) pa_nil)))), ?rd⟩)
  case len => obtain ⟨b, dx, d, e, rs, ws, ss, rfl, _⟩ := h; rfl
  case rd =>
    obtain ⟨b, dx, d, e, rs, ws, ss, rfl, B, q⟩ := h
    walk_at "w2"
    refine ⟨_, fldIs B.ob, e, _, rfl, .inl (.of B.sk), fun p hp => q p hp⟩
end

local macro_rules | `(tactic| walk_at "w3") => `(tactic| try simp only [↓x_var0, ↓x_varS, ↓x_c, ↓x_op, ↓x_un, ↓x_cb, ↓x_nil, ↓x_cons, ↓x_test, ↓x_b, ↓x_ex, ↓x_and, ↓x_or, ↓x_not, ↓x_andV, ↓x_orV, ↓x_notV, ↓x_tif, ↓x_chain, ↓x_menu, ↓x_menuI, ↓x_lst, ↓x_tup, ↓x_dnew, ↓x_callW, ↓x_callN, ↓x_seq, ↓x_next, ↓x_ret, ↓x_retN, ↓x_drop, ↓x_ifS, ↓x_asg, ↓x_name, ↓x_raise, ↓x_fld, ↓x_setF, ↓x_meth, ↓x_make, ↓x_sub, ↓r_min, ↓r_max, ↓x_yes, ↓x_for, ↓x_cut, ↓x_lc, ↓x_rng1, ↓x_rng2, ↓x_lst1, ↓x_itup, ↓x_rng3, ↓x_three, ↓x_lstg, ↓x_tupg, ↓x_adrS, ↓x_one, ↓x_two, ↓x_adr, ↓x_sl, ↓x_np, ↓x_pt, ↓x_int, ↓x_bm, ↓x_bm0, ↓x_consg, ↓x_nilg, ↓x_dget2, ↓x_dget1, ↓x_dget, ↓x_din, ↓x_dni, ↓x_dput, ↓x_dpop2, ↓r_isB, ↓r_notB, ↓x_enum, wipe, List.map_cons, List.map_nil, ↓x_isT, ↓r_isiII, ↓r_isiBB, ↓r_isiIB, ↓r_isiSS, ↓r_neNS, ↓r_neSN, ↓r_neNN, ↓r_eqNS, ↓r_eqSN, ↓r_eqNN, ↓r_eqIS, ↓r_neIS, ↓r_neSI, ↓r_neBS, ↓r_eqBB, ↓r_neBB, ↓x_start, ↓x_K, ↓x_start0, ↓r_i0, ↓r_i, ↓r_u, ↓r_addI, ↓r_addS, ↓r_mulI, ↓r_mulS, ↓r_eqI, ↓r_neI, ↓r_eqS, ↓r_neS, ↓r_absI, ↓r_intI, ↓r_intB, List.length_cons, List.length_nil, List.replicate, List.set_cons_zero, List.set_cons_succ, decide_eq_true_eq, Bool.not_eq_true', decide_eq_false_iff_not, if_true, if_false, Bool.false_eq_true, Bool.true_eq_false, ite_true, ite_false, Bool.not_true, Bool.not_false, c_div, n_ten, c_pow, not_true_eq_false, not_false_eq_true, decide_true, decide_false, true_and, and_true, and_self, true_or, or_true, Int.reduceLT, Int.reduceLE, Int.reduceMul, Int.reduceAdd, Int.reduceSub, Int.reducePow, Int.reduceNeg, Int.reduceDiv, Int.reduceMod, Nat.reducePow, Int.reduceToNat, Int.reduceEq, Int.reduceNe, Nat.reduceLT, Nat.reduceLeDiff, Nat.reduceAdd, ↓x_whole, ↓x_kind])
/-- two lists of the same whole numbers -/
def sp_same (_ : PySem.W.Frag) : Sp := fun vs H Q _ => ∃ a b, ∃ xs : List Int, vs = [.ref a, .ref b] ∧ H a = some (.lst (xs.map V.int)) ∧ H b = some (.lst (xs.map V.int)) ∧ xs.length < 1000000 ∧ Q (.bl true) H
section
variable {P : Program} {w : World} {K : PySem.W.Frag} {mg : Str → Option Value} {base : Heap}
theorem f__law_same (T : Tx K mg) : Fn P w K mg base 1 "_law_same" ["_law_found", "_law_due"] (sp_same K) := by
  refine T.mkFn 40 31 (d := d__law_same) (N := ["_law_found", "_law_due", "_law_k"]) (k := 0) rfl rfl rfl rfl rfl sc__law_same (fun _ _ _ _ _ _ us hl => match us, hl with | [_, _], _ => rfl) (fun vs H Q E h => ?len) (fun cdv A outer s H vs Q E hr h => ⟨_,
      (pss_cons (ps_if (PW.pt (pw_or (pt_not (pt_val (pe_callB call_gIsi (by rfl) (T.free 41) (by decide +kernel) (pa_cons (pv 0) (pa_cons (pe_ty (T := "list") (T.free 50) (by decide +kernel) (by rfl)) pa_nil))))) (pw_or1 (pt_cmpR (op_neK (K := K) rfl hr.units) (pe_callB (call_lenK (K := K) rfl) (by rfl) (T.free 42) PySem.boot_len (pa_cons (pv 0) pa_nil)) (pe_callB (call_lenK (K := K) rfl) (by rfl) (T.free 42) PySem.boot_len (pa_cons (pv 1) pa_nil)) (nomark _))))) (pss_one (ps_ret pe_bl)) pss_nil)
        (pss_cons (ps_for (passes_of rfl) rfl (pi_range1 rfl (T.free 44) (pa_cons (pe_callB (call_lenK (K := K) rfl) (by rfl) (T.free 42) PySem.boot_len (pa_cons (pv 1) pa_nil)) pa_nil)) (pg_name (i := 2) sc__law_same.nd rfl (Or.inl rfl)) (pss_one (ps_if (PW.pt (pw_or (pt_not (pt_val (pe_callB call_gIsi (by rfl) (T.free 41) (by decide +kernel) (pa_cons (pe_ix (ix_seqK (K := K) rfl) (pv 0) (pv 2) (fun _ _ => rfl)) (pa_cons (pe_ty (T := "int") (T.free 47) (by decide +kernel) (by rfl)) pa_nil))))) (pw_or (pt_cmpR op_gIsB (pe_ix (ix_seqK (K := K) rfl) (pv 0) (pv 2) (fun _ _ => rfl)) pe_bl (nomark _)) (pw_or (pt_cmpR op_gIsB (pe_ix (ix_seqK (K := K) rfl) (pv 0) (pv 2) (fun _ _ => rfl)) pe_bl (nomark _)) (pw_or1 (pt_cmpR (op_neK (K := K) rfl hr.units) (pe_ix (ix_seqK (K := K) rfl) (pv 0) (pv 2) (fun _ _ => rfl)) (pe_ix (ix_seqK (K := K) rfl) (pv 1) (pv 2) (fun _ _ => rfl)) (nomark _))))))) (pss_one (ps_ret pe_bl)) pss_nil)))
        (pss_one (ps_ret pe_bl)))), ?rd⟩)
  case len => obtain ⟨a, b, xs, rfl, _⟩ := h; rfl
  case rd =>
    obtain ⟨a, b, xs, rfl, ha, hb, hl, q⟩ := h
    have hz : (-4611686018427387904 : Int) ≤ ((xs.map V.int).length : Int) ∧ ((xs.map V.int).length : Int) < 4611686018427387904 := by rw [List.length_map]; omega
    walk_at "w3"
    refine r_isiL ha ?_
    walk_at "w3"
    refine r_lenL ha (r_lenL hb ?_)
    walk_at "w3"
    refine r_lenL hb ?_
    walk_at "w3"
    refine ⟨hz.1, hz.2, ?_⟩
    rw [Int.toNat_natCast, List.length_map]
    refine forW_range (fun t σ H' => ∃ o2, σ = [some (.ref a), some (.ref b), o2] ∧ H' = H) ⟨_, rfl, rfl⟩ ?_ ?_
    · rintro t σ H' ht ⟨o2, rfl, rfl⟩
      have e : (xs.map V.int)[t]? = some (.int xs[t]) := by rw [List.getElem?_map, List.getElem?_eq_getElem ht]; rfl
      walk_at "w3"
      simp only [Int.zero_add]
      refine r_ixL ha e ?_
      walk_at "w3"
      refine r_ixL ha e ?_
      walk_at "w3"
      refine r_ixL ha e ?_
      walk_at "w3"
      refine r_ixL ha e (r_ixL hb e ?_)
      walk_at "w3"
      exact ⟨_, rfl⟩
    · rintro σ H' ⟨o2, rfl, rfl⟩
      exact q
end

local macro_rules | `(tactic| walk_at "w2") => `(tactic| try simp only [↓x_var0, ↓x_varS, ↓x_c, ↓x_op, ↓x_un, ↓x_cb, ↓x_nil, ↓x_cons, ↓x_test, ↓x_b, ↓x_ex, ↓x_and, ↓x_or, ↓x_not, ↓x_andV, ↓x_orV, ↓x_notV, ↓x_tif, ↓x_chain, ↓x_menu, ↓x_menuI, ↓x_lst, ↓x_tup, ↓x_dnew, ↓x_callW, ↓x_callN, ↓x_seq, ↓x_next, ↓x_ret, ↓x_retN, ↓x_drop, ↓x_ifS, ↓x_asg, ↓x_name, ↓x_raise, ↓x_fld, ↓x_setF, ↓x_meth, ↓x_make, ↓x_sub, ↓r_min, ↓r_max, ↓x_yes, ↓x_for, ↓x_cut, ↓x_lc, ↓x_rng1, ↓x_rng2, ↓x_lst1, ↓x_itup, ↓x_rng3, ↓x_three, ↓x_lstg, ↓x_tupg, ↓x_adrS, ↓x_one, ↓x_two, ↓x_adr, ↓x_sl, ↓x_np, ↓x_pt, ↓x_int, ↓x_bm, ↓x_bm0, ↓x_consg, ↓x_nilg, ↓x_dget2, ↓x_dget1, ↓x_dget, ↓x_din, ↓x_dni, ↓x_dput, ↓x_dpop2, ↓r_isB, ↓r_notB, ↓x_enum, wipe, List.map_cons, List.map_nil, ↓x_isT, ↓r_isiII, ↓r_isiBB, ↓r_isiIB, ↓r_isiSS, ↓r_neNS, ↓r_neSN, ↓r_neNN, ↓r_eqNS, ↓r_eqSN, ↓r_eqNN, ↓r_eqIS, ↓r_neIS, ↓r_neSI, ↓r_neBS, ↓r_eqBB, ↓r_neBB, ↓x_start, ↓x_K, ↓x_start0, ↓r_i0, ↓r_i, ↓r_u, ↓r_addI, ↓r_addS, ↓r_mulI, ↓r_mulS, ↓r_eqI, ↓r_neI, ↓r_eqS, ↓r_neS, ↓r_absI, ↓r_intI, ↓r_intB, List.length_cons, List.length_nil, List.replicate, List.set_cons_zero, List.set_cons_succ, decide_eq_true_eq, Bool.not_eq_true', decide_eq_false_iff_not, if_true, if_false, Bool.false_eq_true, Bool.true_eq_false, ite_true, ite_false, Bool.not_true, Bool.not_false, c_div, n_ten, c_pow, not_true_eq_false, not_false_eq_true, decide_true, decide_false, true_and, and_true, and_self, true_or, or_true, Int.reduceLT, Int.reduceLE, Int.reduceMul, Int.reduceAdd, Int.reduceSub, Int.reducePow, Int.reduceNeg, Int.reduceDiv, Int.reduceMod, Nat.reducePow, Int.reduceToNat, Int.reduceEq, Int.reduceNe, Nat.reduceLT, Nat.reduceLeDiff, Nat.reduceAdd, ↓x_whole, ↓x_kind])
/-! ## hands -/
structure HandO (K : PySem.W.Frag) (H : Hp) (h hx l : Addr) (ws : List Int) : Prop where
  ob : H h = some (.ins (He.ga K "Hands") hx (F_Hands (.ref l)))
  ls : H l = some (.lst (ws.map V.int))
  vw : Vw ws
  sz : ws.length ≤ 6
theorem HandO.same {K H H' h hx l ws} (o : HandO K H h hx l ws) (s : Same H H') : HandO K H' h hx l ws := ⟨s _ _ o.ob, s _ _ o.ls, o.vw, o.sz⟩
theorem HandO.ne {K H h hx l ws} (o : HandO K H h hx l ws) : h ≠ l := ne_of o.ob o.ls (by intro z; cases z)
theorem HandO.put {K H h hx l ws} (o : HandO K H h hx l ws) {i : Nat} {n : Int} (hn : (wordOf n).isSome = true) : HandO K (upd H l (.lst ((ws.set i n).map V.int))) h hx l (ws.set i n) :=
  ⟨by rw [upd_ne o.ne]; exact o.ob, upd_same, o.vw.set hn, by rw [List.length_set]; exact o.sz⟩
def handsV : V → Option Nat
  | .int n => if 1 ≤ n ∧ n ≤ 6 then some n.toNat else none
  | _ => none
theorem handsV_int {n : Int} : handsV (.int n) = if 1 ≤ n ∧ n ≤ 6 then some n.toNat else none := rfl
theorem handsV_odd {H : Hp} {v : V} (h : Odd H v) : handsV v = none := by
  cases v with
  | int i => exact (odd_not h).elim
  | _ => rfl
theorem handsV_some {v : V} {n : Nat} (h : handsV v = some n) : v = .int (n : Int) ∧ 1 ≤ n ∧ n ≤ 6 := by
  cases v with
  | int j =>
    rw [handsV_int] at h
    split at h
    · have e := Option.some.inj h
      exact ⟨by rw [← e]; congr 1; omega, by omega⟩
    · cases h
  | _ => cases h
def placesW (ws : List Int) : List Int := ws.filterMap fun w => match wordOf w with
  | some (.place p) => some p
  | _ => none
def sp_Hands___init__ (K : PySem.W.Frag) : Sp := fun vs H Q E => ∃ h dx v, vs = [.ref h, v] ∧ H h = some (.ins (He.ga K "Hands") dx []) ∧ Thing H v ∧ match handsV v with
  | some n => ∀ l H', H l = none → HandO K H' h dx l (List.replicate n (-1)) → (∀ b o, b ≠ h → H b = some o → H' b = some o) → Q .non H'
  | none => E (Ex K "BadCount") none H
def sp_Hands_need (K : PySem.W.Frag) : Sp := fun vs H Q E => ∃ h dx l ws v, vs = [.ref h, v] ∧ HandO K H h dx l ws ∧ Thing H v ∧ match placeOf ws.length v with
  | some _ => Q .non H
  | none => E (Ex K "NoHand") none H
def sp_Hands_get (K : PySem.W.Frag) : Sp := fun vs H Q E => ∃ h dx l ws v, vs = [.ref h, v] ∧ HandO K H h dx l ws ∧ Thing H v ∧ match placeOf ws.length v with
  | some i => Q (.int (ws.getD i 0)) H
  | none => E (Ex K "NoHand") none H
def sp_Hands_put (K : PySem.W.Frag) : Sp := fun vs H Q E => ∃ h dx l ws v z, vs = [.ref h, v, z] ∧ HandO K H h dx l ws ∧ Thing H v ∧ Thing H z ∧ match placeOf ws.length v with
  | some i => (match wordV z with
    | some n => Q .non (upd H l (.lst ((ws.set i n).map V.int)))
    | none => E (Ex K "BadWord") none H)
  | none => E (Ex K "NoHand") none H
def sp_Hands_row (K : PySem.W.Frag) : Sp := fun vs H Q _ => ∃ h dx l ws, vs = [.ref h] ∧ HandO K H h dx l ws ∧ ∀ p, H p = none → Q (.ref p) (upd H p (.lst (ws.map V.int)))
section
variable {P : Program} {w : World} {K : PySem.W.Frag} {mg : Str → Option Value} {base : Heap}
theorem f_Hands___init__ (T : Tx K mg) : Mi P w K mg base 2 "Hands" ["self", "many"] (sp_Hands___init__ K) := by
  have c_is_whole := f_is_whole (P := P) (w := w) (base := base) T
  refine T.mkMi 5 67 14 (d := d_Hands___init__) (N := ["self", "many", "hand"]) (k := 1) rfl rfl rfl rfl rfl rfl sc_Hands___init__ (fun _ _ _ _ _ _ us hl => match us, hl with | [_, _], _ => rfl) (fun vs H Q E h => ?len) (fun cdv A outer s H vs Q E hr h => ⟨_,
      (pss_cons (ps_if (PW.pt (pw_or (pt_not (pt_val (pe_fn (takes_of rfl rfl rfl rfl) c_is_whole (hr.mono (by decide)) (by rfl) (pa_cons (pv 1) pa_nil)))) (pw_or1 (pt_not (pt_chain op_le op_le pe_int (pv 1) (pe_num (T.num 40) (by rfl))))))) (pss_one (ps_raiseK (K := K) rfl rfl (takes_of rfl rfl rfl rfl) (T.says.fact 55 rfl) (T.glo 3) (by rfl))) pss_nil)
        (pss_one (ps_fldC (T.cls 66) (T.noat 72) (pv 0) (pe_lc (own := [("hand", 2)]) (g := gName 2) rfl sc_Hands___init__.nd (pi_range1 rfl (T.free 44) (pa_cons (pv 1) pa_nil)) (blkOk_by (own := [("hand", 2)]) (N := ["self", "many", "hand"]) (sc := defScope s_Hands___init__) (by decide +kernel)) (fun _ _ _ _ _ => (pg_name (i := 2) sc_Hands___init__.nd rfl (Or.inl rfl))) (fun _ _ _ _ _ => pts_nil) (fun _ _ _ _ _ => (pe_num (T.num 39) (by rfl))))))), ?rd⟩)
  case len => first | exact len_Hands___init__ h | (repeat (first | (obtain ⟨rfl, _⟩ := h; rfl; done) | obtain ⟨_, h⟩ := h))
  case rd =>
    obtain ⟨m, dx, v, rfl, M, th, h⟩ := h
    walk_at "w2"
    rcases th with ⟨n, rfl⟩ | o
    · walk_at "w2"
      rw [handsV_int] at h
      split
      · split
        · rw [if_neg (by omega)] at h
          exact h
        · rw [if_pos (by omega)] at h
          refine ⟨by omega, by omega, fun D hD => lc_mapR (fun _ => .int (-1)) (fun _ => rfl) (by rw [sizeLine_eq]; omega) (fun i hi acc Q q => ?_) ?_⟩
          · walk_at "w2"
            exact q
          · have nD : m ≠ D := ne_of_none M hD
            refine ⟨m, dx, _, rfl, by rw [upd_ne nD]; exact M, by show 0 < 1000; decide, ?_⟩
            rw [pi_Hands_kept]
            have er : (List.range n.toNat).map (fun _ => V.int (-1)) = (List.replicate n.toNat (-1 : Int)).map V.int := by rw [List.map_replicate, List.map_const', List.length_range]
            rw [er]
            refine h D _ hD ⟨upd_same, ?_, Vw.rep, by rw [List.length_replicate]; omega⟩ fun b o hb e => ?_
            · rw [upd_ne nD.symm, upd_same]
            · rw [upd_ne hb, upd_ne (ne_of_none e hD)]
              exact e
      · rw [if_neg (by omega)] at h
        exact h
    · rw [odd_whole o]
      rw [handsV_odd o] at h
      walk_at "w2"
      exact h
theorem f_Hands_need (T : Tx K mg) : Mt P w K mg base 2 "Hands" "need" ["self", "hand"] (sp_Hands_need K) := by
  have c_is_whole := f_is_whole (P := P) (w := w) (base := base) T
  refine T.mkMt 6 68 66 (d := d_Hands_need) (N := ["self", "hand"]) (k := 1) rfl rfl rfl rfl rfl rfl sc_Hands_need (fun _ _ _ _ _ _ us hl => match us, hl with | [_, _], _ => rfl) (fun vs H Q E h => ?len) (fun cdv A outer s H vs Q E hr h => ⟨_,
      (pss_one (ps_if (PW.pt (pw_or (pt_not (pt_val (pe_fn (takes_of rfl rfl rfl rfl) c_is_whole (hr.mono (by decide)) (by rfl) (pa_cons (pv 1) pa_nil)))) (pw_or1 (pt_not (pt_chain op_le op_lt pe_int (pv 1) (pe_callB (call_lenK (K := K) rfl) (by rfl) (T.free 42) PySem.boot_len (pa_cons (pe_fldC (T.cls 66) (T.noat 72) (pv 0)) pa_nil))))))) (pss_one (ps_raiseK (K := K) rfl rfl (takes_of rfl rfl rfl rfl) (T.says.fact 60 rfl) (T.glo 8) (by rfl))) pss_nil)), ?rd⟩)
  case len => first | exact len_Hands_need h | (repeat (first | (obtain ⟨rfl, _⟩ := h; rfl; done) | obtain ⟨_, h⟩ := h))
  case rd =>
    obtain ⟨m, dx, l, ws, v, rfl, M, th, h⟩ := h
    walk_at "w2"
    rcases th with ⟨n, rfl⟩ | o
    · walk_at "w2"
      rw [placeOf_int] at h
      split
      · refine ⟨_, fldIs M.ob, r_lenL M.ls ?_⟩
        walk_at "w2"
        rw [List.length_map]
        split
        · rw [if_neg (by omega)] at h
          exact h
        · rw [if_pos (by omega)] at h
          exact h
      · rw [if_neg (by omega)] at h
        exact h
    · rw [odd_whole o]
      rw [placeOf_odd o] at h
      walk_at "w2"
      exact h
theorem f_Hands_get (T : Tx K mg) : Mt P w K mg base 3 "Hands" "get" ["self", "hand"] (sp_Hands_get K) := by
  have c_Hands_need := f_Hands_need (P := P) (w := w) (base := base) T
  refine T.mkMt 7 69 66 (d := d_Hands_get) (N := ["self", "hand"]) (k := 2) rfl rfl rfl rfl rfl rfl sc_Hands_get (fun _ _ _ _ _ _ us hl => match us, hl with | [_, _], _ => rfl) (fun vs H Q E h => ?len) (fun cdv A outer s H vs Q E hr h => ⟨_,
      (pss_cons (ps_expr (pe_mt (K := K) rfl (takes_of rfl rfl rfl rfl) (pv 0) c_Hands_need (hr.mono (by decide)) (pa_cons (pv 1) pa_nil)))
        (pss_one (ps_ret (pe_ix (ix_seqK (K := K) rfl) (pe_fldC (T.cls 66) (T.noat 72) (pv 0)) (pv 1) (fun _ _ => rfl))))), ?rd⟩)
  case len => first | exact len_Hands_get h | (repeat (first | (obtain ⟨rfl, _⟩ := h; rfl; done) | obtain ⟨_, h⟩ := h))
  case rd =>
    obtain ⟨m, dx, l, ws, v, rfl, M, th, h⟩ := h
    walk_at "w2"
    refine ⟨recv M.ob, m, dx, l, ws, v, rfl, M, th, ?_⟩
    cases e : placeOf ws.length v with
    | none =>
      rw [e] at h
      exact h
    | some i =>
      rw [e] at h
      obtain ⟨rfl, hi⟩ := placeOf_some e
      refine ⟨_, fldIs M.ob, ?_⟩
      refine r_ixL M.ls ?_ h
      rw [List.getElem?_map, getD_at (d := 0) hi]
      rfl
theorem f_Hands_put (T : Tx K mg) : Mt P w K mg base 3 "Hands" "put" ["self", "hand", "word"] (sp_Hands_put K) := by
  have c_Hands_need := f_Hands_need (P := P) (w := w) (base := base) T
  have c_kind := f_kind (P := P) (w := w) (base := base) T
  refine T.mkMt 8 70 66 (d := d_Hands_put) (N := ["self", "hand", "word"]) (k := 2) rfl rfl rfl rfl rfl rfl sc_Hands_put (fun _ _ _ _ _ _ us hl => match us, hl with | [_, _, _], _ => rfl) (fun vs H Q E h => ?len) (fun cdv A outer s H vs Q E hr h => ⟨_,
      (pss_cons (ps_expr (pe_mt (K := K) rfl (takes_of rfl rfl rfl rfl) (pv 0) c_Hands_need (hr.mono (by decide)) (pa_cons (pv 1) pa_nil)))
        (pss_cons (ps_expr (pe_fn (takes_of rfl rfl rfl rfl) c_kind (hr.mono (by decide)) (by rfl) (pa_cons (pv 2) pa_nil)))
        (pss_one (ps_asg (pv 2) (pg_sub (pe_fldC (T.cls 66) (T.noat 72) (pv 0)) (pv 1) set_list))))), ?rd⟩)
  case len => first | exact len_Hands_put h | (repeat (first | (obtain ⟨rfl, _⟩ := h; rfl; done) | obtain ⟨_, h⟩ := h))
  case rd =>
    obtain ⟨m, dx, l, ws, v, z, rfl, M, th, tz, h⟩ := h
    walk_at "w2"
    refine ⟨recv M.ob, m, dx, l, ws, v, rfl, M, th, ?_⟩
    cases e : placeOf ws.length v with
    | none =>
      rw [e] at h
      exact h
    | some i =>
      rw [e] at h
      obtain ⟨rfl, hi⟩ := placeOf_some e
      walk_at "w2"
      rcases tz with ⟨n, rfl⟩ | o
      · rw [x_kind]
        rw [wordV_int] at h
        cases ew : wordOf n with
        | none =>
          rw [ew] at h
          exact h
        | some w =>
          rw [ew] at h
          refine ⟨_, fldIs M.ob, ?_⟩
          refine r_setL M.ls (by omega) (by rw [List.length_map]; omega) ?_
          rw [Int.toNat_natCast, ← List.map_set]
          exact h
      · rw [odd_kind o]
        rw [wordV_odd o] at h
        exact h
theorem f_Hands_row (T : Tx K mg) : Mt P w K mg base 1 "Hands" "row" ["self"] (sp_Hands_row K) := by
  refine T.mkMt 9 71 66 (d := d_Hands_row) (N := ["self"]) (k := 0) rfl rfl rfl rfl rfl rfl sc_Hands_row (fun _ _ _ _ _ _ us hl => match us, hl with | [_], _ => rfl) (fun vs H Q E h => ?len) (fun cdv A outer s H vs Q E hr h => ⟨_,
      (pss_one (ps_ret (pe_callTy (call_listK (K := K) rfl) (by rfl) (T.free 50) (by decide +kernel) (pa_cons (pe_fldC (T.cls 66) (T.noat 72) (pv 0)) pa_nil)))), ?rd⟩)
  case len => first | exact len_Hands_row h | (repeat (first | (obtain ⟨rfl, _⟩ := h; rfl; done) | obtain ⟨_, h⟩ := h))
  case rd =>
    obtain ⟨m, dx, l, ws, rfl, M, q⟩ := h
    walk_at "w2"
    exact ⟨_, fldIs M.ob, l, _, rfl, .inl (.of M.ls), q⟩
end
structure RoA where
  (r rx h hx hl b bx w wx wl la lax d e : Addr)
structure RoS where
  (hs : List Int) (bd : Addr) (bs : List Int) (ts : List V) (rs : List V) (ws : List (Option (Int × Int))) (ss : List Int)
/-- roots: where the parts stand, what they hold -/
structure RootO (K : PySem.W.Frag) (H : Hp) (A : RoA) (S : RoS) : Prop where
  ob : H A.r = some (.ins (He.ga K "Roots") A.rx (F_Roots (.ref A.h) (.ref A.b) (.ref A.w) (.ref A.la)))
  ho : HandO K H A.h A.hx A.hl S.hs
  bo : BookO K H A.b A.bx S.bd S.bs
  wo : WeakO K H A.w A.wx A.wl S.ts
  lo : LastO K H A.la A.lax A.d A.e S.rs S.ws S.ss
  n1 : A.hl ≠ A.wl
  n2 : A.hl ≠ A.d
  n3 : A.hl ≠ A.e
  n4 : A.wl ≠ A.d
  n5 : A.wl ≠ A.e
theorem RootO.same {K H H' A S} (h : RootO K H A S) (s : Same H H') : RootO K H' A S := { h with ob := s _ _ h.ob, ho := h.ho.same s, bo := h.bo.same s, wo := h.wo.same s, lo := h.lo.same s }
def sp_Roots_starts (K : PySem.W.Frag) : Sp := fun vs H Q _ => ∃ r rx h hx l ws, ∃ f2 f3 f4 : V, vs = [.ref r] ∧ H r = some (.ins (He.ga K "Roots") rx (F_Roots (.ref h) f2 f3 f4)) ∧ HandO K H h hx l ws ∧
  ∀ p H', H p = none → Same H H' → H' p = some (.lst ((placesW ws).map V.int)) → Q (.ref p) H'
def sp_Roots___init__ (K : PySem.W.Frag) : Sp := fun vs H Q E => ∃ r dx v, vs = [.ref r, v] ∧ H r = some (.ins (He.ga K "Roots") dx []) ∧ Thing H v ∧ match handsV v with
  | some n => ∀ A S H', A.r = r → S = ⟨List.replicate n (-1), S.bd, [], [], [], [], []⟩ → RootO K H' A S → (∀ c, c = A.h ∨ c = A.hl ∨ c = A.b ∨ c = S.bd ∨ c = A.w ∨ c = A.wl ∨ c = A.la ∨ c = A.d ∨ c = A.e → H c = none) → (∀ b o, b ≠ r → H b = some o → H' b = some o) → Q .non H'
  | none => ∀ H', (∀ b o, b ≠ r → H b = some o → H' b = some o) → E (Ex K "BadCount") none H'
def gPlace : V → Option V
  | .int x => match wordOf x with
    | some (.place p) => some (.int p)
    | _ => none
  | _ => none
def kidV : Wd → Option V
  | .place p => some (.int p)
  | _ => none
theorem gPlace_word {x : Int} {w : Wd} (e : wordOf x = some w) : gPlace (.int x) = kidV w := by
  unfold gPlace
  dsimp only
  rw [e]
  cases w <;> rfl
theorem places_map {ws : List Int} : (ws.map V.int).filterMap gPlace = (placesW ws).map V.int := by
  unfold placesW
  rw [List.filterMap_map, List.map_filterMap]
  congr 1
  funext x
  show gPlace (.int x) = _
  unfold gPlace
  dsimp only
  cases wordOf x with
  | none => rfl
  | some w => cases w <;> rfl
section
variable {P : Program} {w : World} {K : PySem.W.Frag} {mg : Str → Option Value} {base : Heap}
theorem f_Roots_starts (T : Tx K mg) : Mt P w K mg base 4 "Roots" "starts" ["self"] (sp_Roots_starts K) := by
  have c_Hands_row := f_Hands_row (P := P) (w := w) (base := base) T
  have c_kind := f_kind (P := P) (w := w) (base := base) T
  have c_worth := f_worth (P := P) (w := w) (base := base) T
  refine T.mkMt 32 103 101 (d := d_Roots_starts) (N := ["self", "word"]) (k := 3) rfl rfl rfl rfl rfl rfl sc_Roots_starts (fun _ _ _ _ _ _ us hl => match us, hl with | [_], _ => rfl) (fun vs H Q E h => ?len) (fun cdv A outer s H vs Q E hr h => ⟨_,
      (pss_one (ps_ret (pe_lc (own := [("word", 1)]) (g := gName 1) rfl sc_Roots_starts.nd (pi_listK (K := K) rfl (pe_mt0 (K := K) rfl (takes_of rfl rfl rfl rfl) (pe_fldC (T.cls 101) (T.noat 104) (pv 0)) c_Hands_row (hr.mono (by decide)))) (blkOk_by (own := [("word", 1)]) (N := ["self", "word"]) (sc := defScope s_Roots_starts) (by decide +kernel)) (fun _ _ _ _ _ => (pg_name (i := 1) sc_Roots_starts.nd rfl (Or.inl rfl))) (fun _ _ _ _ _ => pts_one (pt_cmpR (op_eqK (K := K) rfl hr.units) (pe_fn takes0 c_kind (hr.mono (by decide)) (by rfl) (pa_cons (pv 1) pa_nil)) pe_str (nomark _))) (fun _ _ _ _ _ => (pe_fn takes0 c_worth (hr.mono (by decide)) (by rfl) (pa_cons (pv 1) pa_nil)))))), ?rd⟩)
  case len => first | exact len_Roots_starts h | (repeat (first | (obtain ⟨rfl, _⟩ := h; rfl; done) | obtain ⟨_, h⟩ := h))
  case rd =>
    obtain ⟨r, rx, hh, hx, l, ws, f2, f3, f4, rfl, R, M, q⟩ := h
    walk_at "w2"
    refine ⟨_, fldIs R, recv M.ob, hh, hx, l, ws, rfl, M, fun p1 np1 => ?_⟩
    walk_at "w2"
    have s1 := same_new (o := .lst (ws.map V.int)) np1
    refine ⟨⟨_, .of upd_same⟩, fun D hD => lc_iffL (xs := ws.map V.int) (g := gPlace) (fun _ => rfl) (fun acc => .of ((same_new hD) _ _ upd_same)) (by have := M.sz; rw [List.length_map, sizeLine_eq]; omega) (fun i x hx acc N n1 n2 => ?_) (fun i x y hx hy acc Q2 q2 => ?_) ?_⟩
    · obtain ⟨n, rfl, hn⟩ := ints_mem hx
      obtain ⟨w, ew⟩ := Option.isSome_iff_exists.mp (M.vw n hn)
      rw [gPlace_word ew] at n1 n2
      walk_at "w2"
      rw [ew]
      dsimp only
      cases w with
      | nothing => simp only [k_nn, k_pn, k_Nn, k_np, k_Np, k_pp, not_true_eq_false, not_false_eq_true, if_true, if_false, ite_true, ite_false, Wd.worth]; first | exact n2 rfl | (rw [decide_eq_false (fun z => z)]; exact n2 rfl)
      | num n => simp only [k_nn, k_pn, k_Nn, k_np, k_Np, k_pp, not_true_eq_false, not_false_eq_true, if_true, if_false, ite_true, ite_false, Wd.worth]; first | exact n2 rfl | (rw [decide_eq_false (fun z => z)]; exact n2 rfl)
      | place p => simp only [k_nn, k_pn, k_Nn, k_np, k_Np, k_pp, not_true_eq_false, not_false_eq_true, if_true, if_false, ite_true, ite_false, Wd.worth]; first | exact n1 rfl | (rw [decide_eq_true trivial]; exact n1 rfl)
    · obtain ⟨n, rfl, hn⟩ := ints_mem hx
      obtain ⟨w, ew⟩ := Option.isSome_iff_exists.mp (M.vw n hn)
      rw [gPlace_word ew] at hy
      walk_at "w2"
      rw [x_worth, ew]
      cases w with
      | place p =>
        cases hy
        exact q2
      | _ => cases hy
    · rw [places_map]
      exact q D _ (none_of s1 hD) (s1.trans (same_new hD)) upd_same
theorem f_Roots___init__ (T : Tx K mg) : Mi P w K mg base 4 "Roots" ["self", "many"] (sp_Roots___init__ K) := by
  have c_Hands___init__ := f_Hands___init__ (P := P) (w := w) (base := base) T
  have c_Book___init__ := f_Book___init__ (P := P) (w := w) (base := base) T
  have c_Weak___init__ := f_Weak___init__ (P := P) (w := w) (base := base) T
  have c_Lasts___init__ := f_Lasts___init__ (P := P) (w := w) (base := base) T
  refine T.mkMi 31 102 18 (d := d_Roots___init__) (N := ["self", "many"]) (k := 3) rfl rfl rfl rfl rfl rfl sc_Roots___init__ (fun _ _ _ _ _ _ us hl => match us, hl with | [_, _], _ => rfl) (fun vs H Q E h => ?len) (fun cdv A outer s H vs Q E hr h => ⟨_,
      (pss_cons (ps_fldC (T.cls 101) (T.noat 104) (pv 0) (pe_mk (K := K) rfl (takes_of rfl rfl rfl rfl) c_Hands___init__ (hr.mono (by decide)) (by rfl) (pa_cons (pv 1) pa_nil)))
        (pss_cons (ps_fldC (T.cls 101) (T.noat 105) (pv 0) (pe_mk0 (K := K) rfl (takes_of rfl rfl rfl rfl) c_Book___init__ (hr.mono (by decide)) (by rfl)))
        (pss_cons (ps_fldC (T.cls 101) (T.noat 106) (pv 0) (pe_mk0 (K := K) rfl (takes_of rfl rfl rfl rfl) c_Weak___init__ (hr.mono (by decide)) (by rfl)))
        (pss_one (ps_fldC (T.cls 101) (T.noat 107) (pv 0) (pe_mk0 (K := K) rfl (takes_of rfl rfl rfl rfl) c_Lasts___init__ (hr.mono (by decide)) (by rfl))))))), ?rd⟩)
  case len => first | exact len_Roots___init__ h | (repeat (first | (obtain ⟨rfl, _⟩ := h; rfl; done) | obtain ⟨_, h⟩ := h))
  case rd =>
    obtain ⟨r, dx, v, rfl, HR, th, h⟩ := h
    walk_at "w2"
    intro hh hx nh nhx nhe
    have sm := same_mk (C := He.ga K "Hands") nh nhx nhe
    refine ⟨hh, hx, v, rfl, upd_same, thing_same sm th, ?_⟩
    cases ev : handsV v with
    | none =>
      rw [ev] at h
      exact h _ fun b o _ g => sm _ _ g
    | some n =>
      rw [ev] at h
      dsimp only
      intro l H2 nl M1 k1
      have s1 := same_init nh nhx nhe k1
      have ra : hh ≠ r := (ne_of_none HR nh).symm
      walk_at "w2"
      refine ⟨r, dx, _, rfl, s1 _ _ HR, by decide, ?_⟩
      rw [pi_Roots_hands]
      have k3 : ∀ {c x}, c ≠ r → H2 c = some x → upd H2 r (.ins (He.ga K "Roots") dx [(("hands" : Str), V.ref hh)]) c = some x := fun h g => by rw [upd_ne h]; exact g
      have a3 : upd H2 r (.ins (He.ga K "Roots") dx [(("hands" : Str), V.ref hh)]) r = some (.ins (He.ga K "Roots") dx [(("hands" : Str), V.ref hh)]) := upd_same
      generalize upd H2 r (.ins (He.ga K "Roots") dx [(("hands" : Str), V.ref hh)]) = H3 at k3 a3 ⊢
      intro b bx nb nbx nbe
      refine ⟨b, bx, rfl, upd_same, fun bd H4 nbd B4 k4 => ?_⟩
      have s4 := same_init nb nbx nbe k4
      have ba : b ≠ r := (ne_of_none a3 nb).symm
      walk_at "w2"
      refine ⟨r, dx, _, rfl, s4 _ _ a3, by show 1 < 1000; decide, ?_⟩
      rw [pi_Roots_book]
      have k5 : ∀ {c x}, c ≠ r → H4 c = some x → upd H4 r (.ins (He.ga K "Roots") dx [(("hands" : Str), V.ref hh), ("book", V.ref b)]) c = some x := fun h g => by rw [upd_ne h]; exact g
      have a5 : upd H4 r (.ins (He.ga K "Roots") dx [(("hands" : Str), V.ref hh), ("book", V.ref b)]) r = some (.ins (He.ga K "Roots") dx [(("hands" : Str), V.ref hh), ("book", V.ref b)]) := upd_same
      generalize upd H4 r (.ins (He.ga K "Roots") dx [(("hands" : Str), V.ref hh), ("book", V.ref b)]) = H5 at k5 a5 ⊢
      intro w wx nw nwx nwe
      refine ⟨w, wx, rfl, upd_same, fun wl H6 nwl W6 k6 => ?_⟩
      have s6 := same_init nw nwx nwe k6
      have wa : w ≠ r := (ne_of_none a5 nw).symm
      walk_at "w2"
      refine ⟨r, dx, _, rfl, s6 _ _ a5, by show 2 < 1000; decide, ?_⟩
      rw [pi_Roots_weaks]
      have k7 : ∀ {c x}, c ≠ r → H6 c = some x → upd H6 r (.ins (He.ga K "Roots") dx [(("hands" : Str), V.ref hh), ("book", V.ref b), ("weaks", V.ref w)]) c = some x := fun h g => by rw [upd_ne h]; exact g
      have a7 : upd H6 r (.ins (He.ga K "Roots") dx [(("hands" : Str), V.ref hh), ("book", V.ref b), ("weaks", V.ref w)]) r = some (.ins (He.ga K "Roots") dx [(("hands" : Str), V.ref hh), ("book", V.ref b), ("weaks", V.ref w)]) := upd_same
      generalize upd H6 r (.ins (He.ga K "Roots") dx [(("hands" : Str), V.ref hh), ("book", V.ref b), ("weaks", V.ref w)]) = H7 at k7 a7 ⊢
      intro la lx nla nlx nle
      refine ⟨la, lx, rfl, upd_same, fun d e H8 nd ne L8 k8 => ?_⟩
      have s8 := same_init nla nlx nle k8
      have laa : la ≠ r := (ne_of_none a7 nla).symm
      walk_at "w2"
      refine ⟨r, dx, _, rfl, s8 _ _ a7, by show 3 < 1000; decide, ?_⟩
      rw [pi_Roots_lasts]
      have k9 : ∀ {c x}, c ≠ r → H8 c = some x → upd H8 r (.ins (He.ga K "Roots") dx (F_Roots (.ref hh) (.ref b) (.ref w) (.ref la))) c = some x := fun h g => by rw [upd_ne h]; exact g
      have k69 : ∀ {c x}, c ≠ r → H6 c = some x → upd H8 r (.ins (He.ga K "Roots") dx (F_Roots (.ref hh) (.ref b) (.ref w) (.ref la))) c = some x := fun h g => k9 h (s8 _ _ (k7 h g))
      have k49 : ∀ {c x}, c ≠ r → H4 c = some x → upd H8 r (.ins (He.ga K "Roots") dx (F_Roots (.ref hh) (.ref b) (.ref w) (.ref la))) c = some x := fun h g => k69 h (s6 _ _ (k5 h g))
      have k29 : ∀ {c x}, c ≠ r → H2 c = some x → upd H8 r (.ins (He.ga K "Roots") dx (F_Roots (.ref hh) (.ref b) (.ref w) (.ref la))) c = some x := fun h g => k49 h (s4 _ _ (k3 h g))
      have nn : ∀ {Hi : Hp} {c : Addr}, (∀ {c x}, c ≠ r → H c = some x → Hi c = some x) → c ≠ r → Hi c = none → H c = none := fun {Hi c} k h g => by
        cases e : H c with
        | none => rfl
        | some x =>
          rw [k h e] at g
          cases g
      have lr : ∀ {Hi : Hp} {c : Addr} {o : HO} {xs : List V}, Hi r = some o → (∃ C d fs, o = .ins C d fs) → Hi c = some (.lst xs) → c ≠ r := fun g ⟨C, d, fs, e⟩ g2 => ne_of g2 g (by rw [e]; intro z; cases z)
      have l2 := lr (s1 _ _ HR) ⟨_, _, _, rfl⟩ M1.ls
      have l6 := lr (s6 _ _ a5) ⟨_, _, _, rfl⟩ W6.ls
      have l8 := lr (s8 _ _ a7) ⟨_, _, _, rfl⟩ L8.wa
      have l8' := lr (s8 _ _ a7) ⟨_, _, _, rfl⟩ L8.sk
      have l4 : bd ≠ r := ne_of B4.ds (s4 _ _ a3) (by intro z; cases z)
      have g1 : ∀ {c x}, c ≠ r → H c = some x → H3 c = some x := fun h g => k3 h (s1 _ _ g)
      have g3 : ∀ {c x}, c ≠ r → H c = some x → H5 c = some x := fun h g => k5 h (s4 _ _ (g1 h g))
      have g5 : ∀ {c x}, c ≠ r → H c = some x → H7 c = some x := fun h g => k7 h (s6 _ _ (g3 h g))
      refine h ⟨r, dx, hh, hx, l, b, bx, w, wx, wl, la, lx, d, e⟩ ⟨List.replicate n (-1), bd, [], [], [], [], []⟩ _ rfl rfl ⟨upd_same, ⟨k29 ra M1.ob, k29 l2 M1.ls, M1.vw, M1.sz⟩, ⟨k49 ba B4.ob, k49 l4 B4.ds, B4.nd⟩, ⟨k69 wa W6.ob, k69 l6 W6.ls⟩, ⟨k9 laa L8.ob, k9 l8 L8.wa, WtAll.nil, k9 l8' L8.sk, L8.de⟩, ?_, ?_, ?_, ?_, ?_⟩ ?_ fun b o h g => k9 h (s8 _ _ (g5 h g))
      · exact ne_of_none ((same_mk nw nwx nwe) _ _ (k5 l2 (s4 _ _ (k3 l2 M1.ls)))) nwl
      · exact ne_of_none ((same_mk nla nlx nle) _ _ (k7 l2 (s6 _ _ (k5 l2 (s4 _ _ (k3 l2 M1.ls)))))) nd
      · exact ne_of_none ((same_mk nla nlx nle) _ _ (k7 l2 (s6 _ _ (k5 l2 (s4 _ _ (k3 l2 M1.ls)))))) ne
      · exact ne_of_none ((same_mk nla nlx nle) _ _ (k7 l6 W6.ls)) nd
      · exact ne_of_none ((same_mk nla nlx nle) _ _ (k7 l6 W6.ls)) ne
      · rintro c (rfl | rfl | rfl | rfl | rfl | rfl | rfl | rfl | rfl)
        · exact nh
        · exact none_of sm nl
        · exact nn g1 ba nb
        · exact nn g1 l4 (none_of (same_mk nb nbx nbe) nbd)
        · exact nn g3 wa nw
        · exact nn g3 l6 (none_of (same_mk nw nwx nwe) nwl)
        · exact nn g5 laa nla
        · exact nn g5 l8 (none_of (same_mk nla nlx nle) nd)
        · exact nn g5 l8' (none_of (same_mk nla nlx nle) ne)
end

local macro_rules | `(tactic| walk_at "w3") => `(tactic| try simp only [↓x_var0, ↓x_varS, ↓x_c, ↓x_op, ↓x_un, ↓x_cb, ↓x_nil, ↓x_cons, ↓x_test, ↓x_b, ↓x_ex, ↓x_and, ↓x_or, ↓x_not, ↓x_andV, ↓x_orV, ↓x_notV, ↓x_tif, ↓x_chain, ↓x_menu, ↓x_menuI, ↓x_lst, ↓x_tup, ↓x_dnew, ↓x_callW, ↓x_callN, ↓x_seq, ↓x_next, ↓x_ret, ↓x_retN, ↓x_drop, ↓x_ifS, ↓x_asg, ↓x_name, ↓x_raise, ↓x_fld, ↓x_setF, ↓x_meth, ↓x_make, ↓x_sub, ↓r_min, ↓r_max, ↓x_yes, ↓x_for, ↓x_cut, ↓x_lc, ↓x_rng1, ↓x_rng2, ↓x_lst1, ↓x_itup, ↓x_rng3, ↓x_three, ↓x_lstg, ↓x_tupg, ↓x_adrS, ↓x_one, ↓x_two, ↓x_adr, ↓x_sl, ↓x_np, ↓x_pt, ↓x_int, ↓x_bm, ↓x_bm0, ↓x_consg, ↓x_nilg, ↓x_dget2, ↓x_dget1, ↓x_dget, ↓x_din, ↓x_dni, ↓x_dput, ↓x_dpop2, ↓r_isB, ↓r_notB, ↓x_enum, wipe, List.map_cons, List.map_nil, ↓x_isT, ↓r_isiII, ↓r_isiBB, ↓r_isiIB, ↓r_isiSS, ↓r_neNS, ↓r_neSN, ↓r_neNN, ↓r_eqNS, ↓r_eqSN, ↓r_eqNN, ↓r_eqIS, ↓r_neIS, ↓r_neSI, ↓r_neBS, ↓r_eqBB, ↓r_neBB, ↓x_start, ↓x_K, ↓x_start0, ↓r_i0, ↓r_i, ↓r_u, ↓r_addI, ↓r_addS, ↓r_mulI, ↓r_mulS, ↓r_eqI, ↓r_neI, ↓r_eqS, ↓r_neS, ↓r_absI, ↓r_intI, ↓r_intB, List.length_cons, List.length_nil, List.replicate, List.set_cons_zero, List.set_cons_succ, decide_eq_true_eq, Bool.not_eq_true', decide_eq_false_iff_not, if_true, if_false, Bool.false_eq_true, Bool.true_eq_false, ite_true, ite_false, Bool.not_true, Bool.not_false, c_div, n_ten, c_pow, not_true_eq_false, not_false_eq_true, decide_true, decide_false, true_and, and_true, and_self, true_or, or_true, Int.reduceLT, Int.reduceLE, Int.reduceMul, Int.reduceAdd, Int.reduceSub, Int.reducePow, Int.reduceNeg, Int.reduceDiv, Int.reduceMod, Nat.reducePow, Int.reduceToNat, Int.reduceEq, Int.reduceNe, Nat.reduceLT, Nat.reduceLeDiff, Nat.reduceAdd, ↓x_whole, ↓x_kind, Int.natCast_one])
def tab7 : List (Str × Str) := [("BadCount", "count"), ("BadWord", "word"), ("NoHand", "hand")]
def sp_alone (K : PySem.W.Frag) : Sp := fun vs H Q _ => ∃ a n r, vs = [.ref a] ∧ H a = some (ExA (Ex K n) a) ∧ (n, r) ∈ tab7 ∧ Q (.str r) H
def sp_made (K : PySem.W.Frag) : Sp := fun vs H Q _ => ∃ v, vs = [v] ∧ Thing H v ∧ match handsV v with
  | none => ∀ H', Same H H' → Q (.str "count") H'
  | some n => ∀ h hx l H', H h = none → H l = none → HandO K H' h hx l (List.replicate n (-1)) → Same H H' → Q (.ref h) H'
def sp_lput (K : PySem.W.Frag) : Sp := fun vs H Q _ => ∃ h hx l ws v z, vs = [.ref h, v, z] ∧ HandO K H h hx l ws ∧ Thing H v ∧ Thing H z ∧ match placeOf ws.length v with
  | none => ∀ H', Same H H' → Q (.str "hand") H'
  | some i => match wordV z with
    | none => ∀ H', Same H H' → Q (.str "word") H'
    | some n => Q .non (upd H l (.lst ((ws.set i n).map V.int)))
def sp_lget (K : PySem.W.Frag) : Sp := fun vs H Q _ => ∃ h hx l ws v, vs = [.ref h, v] ∧ HandO K H h hx l ws ∧ Thing H v ∧ match placeOf ws.length v with
  | none => ∀ H', Same H H' → Q (.str "hand") H'
  | some i => Q (.int (ws.getD i 0)) H
def wordC (c : Int) : Int := if c % 8 < 3 then 2 * (c / 8 % 2000000000001 - 1000000000000) else if c % 8 < 5 then 2 * (c / 8 % 10000) + 1 else if c % 8 = 5 then -1 else ([2000000000000, -2000000000000, 1, 19999, 0] : List Int).getD (c / 8 % 5).toNat 0
theorem wordC_ok {c : Int} : (wordOf (wordC c)).isSome = true := by
  unfold wordC
  split
  · rw [word_num (by omega)]; rfl
  · split
    · rw [word_place (by omega) (by omega)]; rfl
    · split
      · rfl
      · have cs : (c / 8 % 5).toNat = 0 ∨ (c / 8 % 5).toNat = 1 ∨ (c / 8 % 5).toNat = 2 ∨ (c / 8 % 5).toNat = 3 ∨ (c / 8 % 5).toNat = 4 := by omega
        rcases cs with e | e | e | e | e <;> rw [e] <;> decide +kernel
def gKid : V → Option V
  | .int x => if x % 2 = 1 ∧ 0 < x then some (.int (x / 2)) else none
  | _ => none
theorem fm_congr {α β : Type} {f g : α → Option β} : ∀ {xs : List α}, (∀ x ∈ xs, f x = g x) → xs.filterMap f = xs.filterMap g
  | [], _ => rfl
  | x :: r, h => by rw [List.filterMap_cons, List.filterMap_cons, h x (List.mem_cons_self), fm_congr fun y m => h y (List.mem_cons_of_mem _ m)]
theorem kid_places {ws : List Int} (vw : Vw ws) : (ws.map V.int).filterMap gKid = (placesW ws).map V.int := by
  rw [← places_map]
  refine fm_congr fun x hx => ?_
  obtain ⟨n, m, rfl⟩ := List.mem_map.mp hx
  obtain ⟨w, ew⟩ := Option.isSome_iff_exists.mp (vw n m)
  rw [gPlace_word ew]
  show (if n % 2 = 1 ∧ 0 < n then some (V.int (n / 2)) else none) = _
  unfold wordOf at ew
  repeat' split at ew
  all_goals first
    | (cases ew; done)
    | (cases ew; first | (rw [if_neg (by omega)]; rfl) | (rw [if_pos (by omega)]; rfl))
theorem placesW_len {ws : List Int} : (placesW ws).length ≤ ws.length := List.length_filterMap_le _ _
theorem getD_rangeI {ts : List Int} : (List.range ts.length).map (fun i => ts.getD i 0) = ts := by
  refine List.ext_getElem (by rw [List.length_map, List.length_range]) fun i h1 h2 => ?_
  rw [List.getElem_map, List.getElem_range, List.getD_eq_getElem?_getD, List.getElem?_eq_getElem h2]
  rfl
def sp_word (_ : PySem.W.Frag) : Sp := fun vs H Q _ => ∃ c, vs = [.int c] ∧ (c % 8 ≠ 7 → ∀ H', Same H H' → Q (.int (wordC c)) H') ∧ (c % 8 = 7 → ∀ v H', Same H H' → Thing H' v → wordV v = none → Q v H')
def sp_isword (_ : PySem.W.Frag) : Sp := fun vs H Q _ => ∃ c, vs = [.int c] ∧ Q (.bl (!decide (c % 8 = 7))) H
def sp_right (K : PySem.W.Frag) : Sp := fun vs H Q _ => ∃ h hx l ws k, vs = [.ref h, .ref k] ∧ HandO K H h hx l ws ∧ H k = some (.lst (ws.map V.int)) ∧ ∀ H', Same H H' → Q (.bl true) H'
/-- roots: their hands -/
structure RtO (K : PySem.W.Frag) (H : Hp) (r rx h hx l : Addr) (f2 f3 f4 : V) (ws : List Int) : Prop where
  ob : H r = some (.ins (He.ga K "Roots") rx (F_Roots (.ref h) f2 f3 f4))
  ho : HandO K H h hx l ws
theorem RtO.same {K H H' r rx h hx l f2 f3 f4 ws} (o : RtO K H r rx h hx l f2 f3 f4 ws) (s : Same H H') : RtO K H' r rx h hx l f2 f3 f4 ws := ⟨s _ _ o.ob, o.ho.same s⟩
def sp_startsr (K : PySem.W.Frag) : Sp := fun vs H Q _ => ∃ r rx h hx l f2 f3 f4 ws k t ts, vs = [.ref r, .ref k, .ref t] ∧ RtO K H r rx h hx l f2 f3 f4 ws ∧ H k = some (.lst (ws.map V.int)) ∧ H t = some (.lst ts) ∧ ts.length < 1000 ∧
  ∀ f d tp H', H f = none → H d = none → H tp = none → f ≠ d → (∀ b o, b ≠ t → H b = some o → H' b = some o) → H' t = some (.lst (ts ++ [.ref tp])) → H' tp = some (.tup [.ref f, .ref d]) → H' f = some (.lst ((placesW ws).map V.int)) → H' d = some (.lst ((placesW ws).map V.int)) → Q (.bl true) H'
def sp_rooted (K : PySem.W.Frag) : Sp := fun vs H Q _ => ∃ r rx h hx l f2 f3 f4 ws k, ∃ i : Nat, ∃ n c, vs = [.ref r, .ref k, .int i, .int n, .int c] ∧ RtO K H r rx h hx l f2 f3 f4 ws ∧ H k = some (.lst (ws.map V.int)) ∧ k ≠ l ∧ i < ws.length ∧ (wordOf n).isSome = true ∧
  ∀ ws' H', ws'.length = ws.length → RtO K H' r rx h hx l f2 f3 f4 ws' → H' k = some (.lst (ws'.map V.int)) → (∀ b o, b ≠ l → b ≠ k → H b = some o → H' b = some o) → Q (.bl true) H'
structure TP where
  (tp f d : Addr) (P : List Int)
/-- pairs of lists alike, the first ones apart from all others -/
structure TsO (H : Hp) (ts : List V) (L : List TP) : Prop where
  eq : ts = L.map fun x => V.ref x.tp
  at_ : ∀ x ∈ L, H x.tp = some (.tup [.ref x.f, .ref x.d]) ∧ H x.f = some (.lst (x.P.map V.int)) ∧ H x.d = some (.lst (x.P.map V.int)) ∧ x.P.length ≤ 6
  nd : (L.map TP.f).Nodup
  fd : ∀ x ∈ L, ∀ y ∈ L, x.f ≠ y.d
theorem TsO.keep {H H' ts L} (h : TsO H ts L) (k : ∀ x ∈ L, H' x.tp = H x.tp ∧ H' x.f = H x.f ∧ H' x.d = H x.d) : TsO H' ts L :=
  { h with at_ := fun x m => (let ⟨a, b, c⟩ := k x m; by rw [a, b, c]; exact h.at_ x m) }
theorem TsO.same {H H' ts L} (h : TsO H ts L) (s : Same H H') : TsO H' ts L := { h with at_ := fun x m => let ⟨a, b, c, d⟩ := h.at_ x m; ⟨s _ _ a, s _ _ b, s _ _ c, d⟩ }
theorem TsO.snoc {H H' ts L f d tp P} (h : TsO H ts L) (h' : TsO H' ts L) (nf : H f = none) (nd : H d = none) (fd : f ≠ d) (e1 : H' tp = some (.tup [.ref f, .ref d])) (e2 : H' f = some (.lst (P.map V.int))) (e3 : H' d = some (.lst (P.map V.int))) (hl : P.length ≤ 6) : TsO H' (ts ++ [.ref tp]) (L ++ [⟨tp, f, d, P⟩]) := by
  refine ⟨by rw [h.eq, List.map_append]; rfl, fun x m => ?_, ?_, fun x mx y my => ?_⟩
  · rcases List.mem_append.mp m with m | m
    · exact h'.at_ x m
    · rw [List.mem_singleton.mp m]
      exact ⟨e1, e2, e3, hl⟩
  · rw [List.map_append]
    refine List.nodup_append.mpr ⟨h.nd, by simp, fun a ha b hb e => ?_⟩
    obtain ⟨x, mx, rfl⟩ := List.mem_map.mp ha
    have eb : b = f := by simpa using hb
    have := (h.at_ x mx).2.1
    rw [e, eb, nf] at this
    cases this
  · rcases List.mem_append.mp mx with mx | mx
    · rcases List.mem_append.mp my with my | my
      · exact h.fd x mx y my
      · rw [List.mem_singleton.mp my]
        exact ne_of_none (h.at_ x mx).2.1 nd
    · rw [List.mem_singleton.mp mx]
      rcases List.mem_append.mp my with my | my
      · exact (ne_of_none (h.at_ y my).2.2.1 nf).symm
      · rw [List.mem_singleton.mp my]
        exact fd
def sp_stays (K : PySem.W.Frag) : Sp := fun vs H Q _ => ∃ r rx h hx l f2 f3 f4 ws k t ts L, vs = [.ref r, .ref k, .ref t] ∧ RtO K H r rx h hx l f2 f3 f4 ws ∧ H k = some (.lst (ws.map V.int)) ∧ H t = some (.lst ts) ∧ ts.length < 1000 ∧ TsO H ts L ∧
  (∀ x ∈ L, x.f ≠ l ∧ x.f ≠ k ∧ x.f ≠ t) ∧ ∀ H', (∀ b o, (∀ x ∈ L, b ≠ x.f) → H b = some o → H' b = some o) → Q (.bl true) H'
section
variable {P : Program} {w : World} {K : PySem.W.Frag} {mg : Str → Option Value} {base : Heap}
theorem f__law_alone (T : Tx K mg) : FnH P w K mg base 1 "_law_alone" ["_law_e"] (sp_alone K) := by
  refine T.mkFnH 34 25 (d := d__law_alone) (N := ["_law_e", "_law_found"]) (k := 0) rfl rfl rfl rfl rfl sc__law_alone (fun _ _ _ _ _ _ us hl => match us, hl with | [_], _ => rfl) (fun vs H Q E h => ?len) (fun cdv A outer s H vs Q hr h => ⟨_,
      (pss_cons (ps_set (i := 1) sc__law_alone.nd rfl (Or.inl rfl) (pe_op op_gAdd (pe_op op_gMul pe_str (pe_callTy call_gInt (by rfl) (T.free 47) (by decide +kernel) (pa_cons (pe_callB (call_isEK (K := K) rfl) (by rfl) (T.free 41) (by decide +kernel) (pa_cons (pv 0) (pa_cons (pe_clsK (K := K) rfl (T.glo 3) (by rfl)) pa_nil))) pa_nil))) (pe_op op_gMul pe_str (pe_callTy call_gInt (by rfl) (T.free 47) (by decide +kernel) (pa_cons (pe_callB (call_isEK (K := K) rfl) (by rfl) (T.free 41) (by decide +kernel) (pa_cons (pv 0) (pa_cons (pe_clsK (K := K) rfl (T.glo 2) (by rfl)) pa_nil))) pa_nil)))))
        (pss_cons (ps_set (i := 1) sc__law_alone.nd rfl (Or.inl rfl) (pe_op op_gAdd (pe_op op_gAdd (pv 1) (pe_op op_gMul pe_str (pe_callTy call_gInt (by rfl) (T.free 47) (by decide +kernel) (pa_cons (pe_callB (call_isEK (K := K) rfl) (by rfl) (T.free 41) (by decide +kernel) (pa_cons (pv 0) (pa_cons (pe_clsK (K := K) rfl (T.glo 8) (by rfl)) pa_nil))) pa_nil)))) (pe_op op_gMul pe_str (pe_callTy call_gInt (by rfl) (T.free 47) (by decide +kernel) (pa_cons (pe_isT (by rfl) (T.free 41) (pv 0) (pa_cons (pe_clsK (K := K) rfl (T.glo 10) (by rfl)) (pa_cons (pe_clsK (K := K) rfl (T.glo 11) (by rfl)) (pa_cons (pe_clsK (K := K) rfl (T.glo 7) (by rfl)) pa_nil)))) pa_nil)))))
        (pss_cons (ps_set (i := 1) sc__law_alone.nd rfl (Or.inl rfl) (pe_op op_gAdd (pv 1) (pe_op op_gMul pe_str (pe_callTy call_gInt (by rfl) (T.free 47) (by decide +kernel) (pa_cons (pe_isT (by rfl) (T.free 41) (pv 0) (pa_cons (pe_clsK (K := K) rfl (T.glo 1) (by rfl)) (pa_cons (pe_clsK (K := K) rfl (T.glo 12) (by rfl)) (pa_cons (pe_clsK (K := K) rfl (T.glo 4) (by rfl)) (pa_cons (pe_clsK (K := K) rfl (T.glo 13) (by rfl)) (pa_cons (pe_clsK (K := K) rfl (T.glo 5) (by rfl)) (pa_cons (pe_clsK (K := K) rfl (T.glo 6) (by rfl)) (pa_cons (pe_clsK (K := K) rfl (T.glo 9) (by rfl)) pa_nil)))))))) pa_nil)))))
        (pss_one (ps_ret (pe_op op_gAdd (pv 1) (pe_op op_gMul pe_str (pe_callTy call_gInt (by rfl) (T.free 47) (by decide +kernel) (pa_cons (pe_not (pe_callB (call_isEK (K := K) rfl) (by rfl) (T.free 41) (by decide +kernel) (pa_cons (pv 0) (pa_cons (pe_ty (T := "ValueError") (T.free 51) (by decide +kernel) (by rfl)) pa_nil)))) pa_nil))))))))), ?rd⟩)
  case len => first | exact len__law_alone h | (repeat (first | (obtain ⟨rfl, _⟩ := h; rfl; done) | obtain ⟨_, h⟩ := h))
  case rd =>
    obtain ⟨a, n, r, rfl, ha, hn, q⟩ := h
    simp only [tab7, List.mem_cons, List.not_mem_nil, or_false, Prod.mk.injEq] at hn
    rcases hn with ⟨rfl, rfl⟩ | ⟨rfl, rfl⟩ | ⟨rfl, rfl⟩
    all_goals
      walk_at "w3"
      repeat ((first | (first | refine T.isY ha (by decide +kernel) (by decide +kernel) (by decide +kernel) ?_ | refine T.isN ha (by decide +kernel) (by decide +kernel) (by decide +kernel) ?_) | (apply T.isA (b := false) ha; (· repeat first | exact .nil | apply NamesK.cons); (· decide +kernel); (· decide +kernel); (· decide +kernel); (· decide +kernel)) | refine T.isV ha (by decide +kernel) ?_); walk_at "w3"; (try refine ⟨by decide +kernel, ?_⟩))
      exact q_str q (by decide +kernel)
theorem f__law_made (T : Tx K mg) : Fn P w K mg base 4 "_law_made" ["_law_many"] (sp_made K) := by
  have c_Hands___init__ := f_Hands___init__ (P := P) (w := w) (base := base) T
  have c__law_alone := f__law_alone (P := P) (w := w) (base := base) T
  refine T.mkFn 35 26 (d := d__law_made) (N := ["_law_many", "_law_e"]) (k := 3) rfl rfl rfl rfl rfl sc__law_made (fun _ _ _ _ _ _ us hl => match us, hl with | [_], _ => rfl) (fun vs H Q E h => ?len) (fun cdv A outer s H vs Q E hr h => ⟨_,
      (pss_one (ps_tryT (i := 1) rfl rfl rfl sc__law_made.nd rfl rfl ⟨by rfl, by decide, Or.inl (T.glo 0)⟩ (takes_of rfl rfl rfl rfl) (fun W pn xe tk po => (pss_one (ps_ret (pe_mk (K := K) rfl tk c_Hands___init__ (hr.mono (by decide)) (by rfl) (pa_cons (pv 0) pa_nil))))) (fun a pn => (pss_one (ps_ret (pe_fnH c__law_alone (roomN_mark (hr.mono (by decide))) (by rfl) (pa_cons (pv 1) pa_nil))))))), ?rd⟩)
  case len => first | exact len__law_made h | (repeat (first | (obtain ⟨rfl, _⟩ := h; rfl; done) | obtain ⟨_, h⟩ := h))
  case rd =>
    obtain ⟨v, rfl, th, q⟩ := h
    walk_at "w3"
    intro hh hx nh nhx nhe
    have sm := same_mk (C := He.ga K "Hands") nh nhx nhe
    refine ⟨hh, hx, v, rfl, upd_same, thing_same sm th, ?_⟩
    cases e : handsV v with
    | none =>
      rw [e] at q
      refine T.caught (by decide +kernel) (by decide +kernel) (by decide +kernel) fun a ha => ?_; walk_at "w3"; refine ⟨a, _, _, rfl, upd_same, (by decide +kernel : (("BadCount", "count") : Str × Str) ∈ tab7), ?_⟩; walk_at "w3"
      exact q _ (sm.trans (same_new ha))
    | some n =>
      rw [e] at q
      intro l H2 nl M1 k1
      exact ⟨rfl, q hh hx l H2 nh (none_of sm nl) M1 (same_init nh nhx nhe k1)⟩
theorem f__law_put (T : Tx K mg) : Fn P w K mg base 4 "_law_put" ["_law_hands", "_law_hand", "_law_word_here"] (sp_lput K) := by
  have c_Hands_put := f_Hands_put (P := P) (w := w) (base := base) T
  have c__law_alone := f__law_alone (P := P) (w := w) (base := base) T
  refine T.mkFn 36 27 (d := d__law_put) (N := ["_law_hands", "_law_hand", "_law_word_here", "_law_e"]) (k := 3) rfl rfl rfl rfl rfl sc__law_put (fun _ _ _ _ _ _ us hl => match us, hl with | [_, _, _], _ => rfl) (fun vs H Q E h => ?len) (fun cdv A outer s H vs Q E hr h => ⟨_,
      (pss_one (ps_tryT (i := 3) rfl rfl rfl sc__law_put.nd rfl rfl ⟨by rfl, by decide, Or.inl (T.glo 0)⟩ (takes_of rfl rfl rfl rfl) (fun W pn xe tk po => (pss_one (ps_ret (pe_mt (K := K) rfl tk (pv 0) c_Hands_put (hr.mono (by decide)) (pa_cons (pv 1) (pa_cons (pv 2) pa_nil)))))) (fun a pn => (pss_one (ps_ret (pe_fnH c__law_alone (roomN_mark (hr.mono (by decide))) (by rfl) (pa_cons (pv 3) pa_nil))))))), ?rd⟩)
  case len => first | exact len__law_put h | (repeat (first | (obtain ⟨rfl, _⟩ := h; rfl; done) | obtain ⟨_, h⟩ := h))
  case rd =>
    obtain ⟨h, hx, l, ws, v, z, rfl, M, th, tz, q⟩ := h
    walk_at "w3"
    refine ⟨recv M.ob, h, hx, l, ws, v, z, rfl, M, th, tz, ?_⟩
    cases e : placeOf ws.length v with
    | none =>
      rw [e] at q
      refine T.caught (by decide +kernel) (by decide +kernel) (by decide +kernel) fun a ha => ?_; walk_at "w3"; refine ⟨a, _, _, rfl, upd_same, (by decide +kernel : (("NoHand", "hand") : Str × Str) ∈ tab7), ?_⟩; walk_at "w3"
      exact q _ (same_new ha)
    | some i =>
      rw [e] at q
      dsimp only at q ⊢
      cases e2 : wordV z with
      | none =>
        rw [e2] at q
        refine T.caught (by decide +kernel) (by decide +kernel) (by decide +kernel) fun a ha => ?_; walk_at "w3"; refine ⟨a, _, _, rfl, upd_same, (by decide +kernel : (("BadWord", "word") : Str × Str) ∈ tab7), ?_⟩; walk_at "w3"
        exact q _ (same_new ha)
      | some n =>
        rw [e2] at q
        exact q
theorem f__law_get (T : Tx K mg) : Fn P w K mg base 4 "_law_get" ["_law_hands", "_law_hand"] (sp_lget K) := by
  have c_Hands_get := f_Hands_get (P := P) (w := w) (base := base) T
  have c__law_alone := f__law_alone (P := P) (w := w) (base := base) T
  refine T.mkFn 37 28 (d := d__law_get) (N := ["_law_hands", "_law_hand", "_law_e"]) (k := 3) rfl rfl rfl rfl rfl sc__law_get (fun _ _ _ _ _ _ us hl => match us, hl with | [_, _], _ => rfl) (fun vs H Q E h => ?len) (fun cdv A outer s H vs Q E hr h => ⟨_,
      (pss_one (ps_tryT (i := 2) rfl rfl rfl sc__law_get.nd rfl rfl ⟨by rfl, by decide, Or.inl (T.glo 0)⟩ (takes_of rfl rfl rfl rfl) (fun W pn xe tk po => (pss_one (ps_ret (pe_mt (K := K) rfl tk (pv 0) c_Hands_get (hr.mono (by decide)) (pa_cons (pv 1) pa_nil))))) (fun a pn => (pss_one (ps_ret (pe_fnH c__law_alone (roomN_mark (hr.mono (by decide))) (by rfl) (pa_cons (pv 2) pa_nil))))))), ?rd⟩)
  case len => first | exact len__law_get h | (repeat (first | (obtain ⟨rfl, _⟩ := h; rfl; done) | obtain ⟨_, h⟩ := h))
  case rd =>
    obtain ⟨h, hx, l, ws, v, rfl, M, th, q⟩ := h
    walk_at "w3"
    refine ⟨recv M.ob, h, hx, l, ws, v, rfl, M, th, ?_⟩
    cases e : placeOf ws.length v with
    | none =>
      rw [e] at q
      refine T.caught (by decide +kernel) (by decide +kernel) (by decide +kernel) fun a ha => ?_; walk_at "w3"; refine ⟨a, _, _, rfl, upd_same, (by decide +kernel : (("NoHand", "hand") : Str × Str) ∈ tab7), ?_⟩; walk_at "w3"
      exact q _ (same_new ha)
    | some i =>
      rw [e] at q
      exact q
theorem f__law_word (T : Tx K mg) : Fn P w K mg base 1 "_law_word" ["_law_cell"] (sp_word K) := by
  refine T.mkFn 38 29 (d := d__law_word) (N := ["_law_cell", "_law_more"]) (k := 0) rfl rfl rfl rfl rfl sc__law_word (fun _ _ _ _ _ _ us hl => match us, hl with | [_], _ => rfl) (fun vs H Q E h => ?len) (fun cdv A outer s H vs Q E hr h => ⟨_,
      (pss_cons (ps_set (i := 1) sc__law_word.nd rfl (Or.inl rfl) (pe_op op_fdiv (pv 0) pe_int))
        (pss_cons (ps_if (pt_cmpR op_lt (pe_op op_mod (pv 0) pe_int) pe_int (nomark _)) (pss_one (ps_ret (pe_op op_gMul pe_int (pe_op op_sub (pe_op op_mod (pv 1) pe_int) (pe_op op_pow pe_int pe_int))))) pss_nil)
        (pss_cons (ps_if (pt_cmpR op_lt (pe_op op_mod (pv 0) pe_int) pe_int (nomark _)) (pss_one (ps_ret (pe_op op_gAdd (pe_op op_gMul pe_int (pe_op op_mod (pv 1) pe_int)) pe_int))) pss_nil)
        (pss_cons (ps_if (pt_cmpR (op_eqK (K := K) rfl hr.units) (pe_op op_mod (pv 0) pe_int) pe_int (nomark _)) (pss_one (ps_ret (pe_un un_neg pe_int))) pss_nil)
        (pss_cons (ps_if (pt_cmpR (op_eqK (K := K) rfl hr.units) (pe_op op_mod (pv 0) pe_int) pe_int (nomark _)) (pss_one (ps_ret (pe_menu (pa_cons (pe_op op_gMul pe_int (pe_op op_pow pe_int pe_int)) (pa_cons (pe_op op_gMul (pe_un un_neg pe_int) (pe_op op_pow pe_int pe_int)) (pa_cons pe_int (pa_cons pe_int (pa_cons pe_int pa_nil))))) (pe_op op_mod (pv 1) pe_int) (fun _ _ => rfl)))) pss_nil)
        (pss_one (ps_ret (pe_menu (pa_cons (pe_op op_gAdd (pe_op op_gMul pe_int (pe_op op_pow pe_int pe_int)) pe_int) (pa_cons (pe_op op_sub (pe_op op_gMul (pe_un un_neg pe_int) (pe_op op_pow pe_int pe_int)) pe_int) (pa_cons pe_int (pa_cons (pe_un un_neg pe_int) (pa_cons pe_bl (pa_cons pe_bl (pa_cons pe_non (pa_cons pe_str (pa_cons (pe_lst (pa_cons pe_int pa_nil)) (pa_cons (pe_tup (pa_cons pe_int pa_nil)) pa_nil)))))))))) (pe_op op_mod (pv 1) pe_int) (fun _ _ => rfl))))))))), ?rd⟩)
  case len => first | exact len__law_word h | (repeat (first | (obtain ⟨rfl, _⟩ := h; rfl; done) | obtain ⟨_, h⟩ := h))
  case rd =>
    obtain ⟨c, rfl, h1, h2⟩ := h
    have sz100 : 100 ≤ sizeLine := by rw [sizeLine_eq]; omega
    unfold wordC at h1
    walk_at "w3"
    split
    · rename_i c1
      have g := h1 (by omega) H (Same.refl H)
      rw [if_pos c1] at g
      exact g
    split
    · rename_i c1 c2
      have g := h1 (by omega) H (Same.refl H)
      rw [if_neg c1, if_pos c2] at g
      exact g
    split
    · rename_i c1 c2 c3
      have g := h1 (by omega) H (Same.refl H)
      rw [if_neg c1, if_neg c2, if_pos c3] at g
      exact g
    split
    · rename_i c1 c2 c3 c4
      have g := h1 (by omega) H (Same.refl H)
      rw [if_neg c1, if_neg c2, if_neg c3] at g
      refine ⟨by omega, ?_⟩
      have cs : c / 8 % 5 = 0 ∨ c / 8 % 5 = 1 ∨ c / 8 % 5 = 2 ∨ c / 8 % 5 = 3 ∨ c / 8 % 5 = 4 := by omega
      rcases cs with e | e | e | e | e <;> rw [e] at g ⊢ <;> exact ⟨_, rfl, g⟩
    refine ⟨by omega, fun p1 n1 => ⟨by omega, fun p2 n2 => ⟨by omega, ?_⟩⟩⟩
    have s1 := same_new (o := .lst [.int 2]) n1
    have s2 := same_new (o := .tup [.int 1]) n2
    refine menu_pick (fun v => Thing (upd (upd H p1 (.lst [.int 2])) p2 (.tup [.int 1])) v ∧ wordV v = none) ?_ fun v g => h2 (by omega) v _ (s1.trans s2) g.1 g.2
    have cs : c / 8 % 10 = 0 ∨ c / 8 % 10 = 1 ∨ c / 8 % 10 = 2 ∨ c / 8 % 10 = 3 ∨ c / 8 % 10 = 4 ∨ c / 8 % 10 = 5 ∨ c / 8 % 10 = 6 ∨ c / 8 % 10 = 7 ∨ c / 8 % 10 = 8 ∨ c / 8 % 10 = 9 := by omega
    rcases cs with e | e | e | e | e | e | e | e | e | e <;> rw [e] <;> refine ⟨_, rfl, ?_⟩
    · exact ⟨.inl ⟨_, rfl⟩, by decide +kernel⟩
    · exact ⟨.inl ⟨_, rfl⟩, by decide +kernel⟩
    · exact ⟨.inl ⟨_, rfl⟩, by decide +kernel⟩
    · exact ⟨.inl ⟨_, rfl⟩, by decide +kernel⟩
    · exact ⟨.inr odd_bl, rfl⟩
    · exact ⟨.inr odd_bl, rfl⟩
    · exact ⟨.inr odd_non, rfl⟩
    · exact ⟨.inr odd_str, rfl⟩
    · exact ⟨.inr (odd_lst (s2 _ _ upd_same)), rfl⟩
    · exact ⟨.inr (odd_tup upd_same), rfl⟩
theorem f__law_is_word (T : Tx K mg) : Fn P w K mg base 1 "_law_is_word" ["_law_cell"] (sp_isword K) := by
  refine T.mkFn 39 30 (d := d__law_is_word) (N := ["_law_cell"]) (k := 0) rfl rfl rfl rfl rfl sc__law_is_word (fun _ _ _ _ _ _ us hl => match us, hl with | [_], _ => rfl) (fun vs H Q E h => ?len) (fun cdv A outer s H vs Q E hr h => ⟨_,
      (pss_one (ps_ret (pe_cmpR (op_neK (K := K) rfl hr.units) (pe_op op_mod (pv 0) pe_int) pe_int (nomark _)))), ?rd⟩)
  case len => first | exact len__law_is_word h | (repeat (first | (obtain ⟨rfl, _⟩ := h; rfl; done) | obtain ⟨_, h⟩ := h))
  case rd =>
    obtain ⟨c, rfl, q⟩ := h
    walk_at "w3"
    exact q
theorem f__law_right (T : Tx K mg) : Fn P w K mg base 4 "_law_right" ["_law_hands", "_law_kept"] (sp_right K) := by
  have c_Hands_row := f_Hands_row (P := P) (w := w) (base := base) T
  have c__law_same := f__law_same (P := P) (w := w) (base := base) T
  have c_Hands_get := f_Hands_get (P := P) (w := w) (base := base) T
  refine T.mkFn 41 32 (d := d__law_right) (N := ["_law_hands", "_law_kept", "_law_told", "_law_hand"]) (k := 3) rfl rfl rfl rfl rfl sc__law_right (fun _ _ _ _ _ _ us hl => match us, hl with | [_, _], _ => rfl) (fun vs H Q E h => ?len) (fun cdv A outer s H vs Q E hr h => ⟨_,
      (pss_cons (ps_set (i := 2) sc__law_right.nd rfl (Or.inl rfl) (pe_mt0 (K := K) rfl (takes_of rfl rfl rfl rfl) (pv 0) c_Hands_row (hr.mono (by decide))))
        (pss_cons (ps_if (PW.pt (pw_or (pt_not (pt_val (pe_fn (takes_of rfl rfl rfl rfl) c__law_same (hr.mono (by decide)) (by rfl) (pa_cons (pv 2) (pa_cons (pv 1) pa_nil))))) (pw_or1 (pt_not (pt_val (pe_fn (takes_of rfl rfl rfl rfl) c__law_same (hr.mono (by decide)) (by rfl) (pa_cons (pe_lc (own := [("_law_hand", 3)]) (g := gName 3) rfl sc__law_right.nd (pi_range1 rfl (T.free 44) (pa_cons (pe_callB (call_lenK (K := K) rfl) (by rfl) (T.free 42) PySem.boot_len (pa_cons (pv 1) pa_nil)) pa_nil)) (blkOk_by (own := [("_law_hand", 3)]) (N := ["_law_hands", "_law_kept", "_law_told", "_law_hand"]) (sc := defScope s__law_right) (by decide +kernel)) (fun _ _ _ _ _ => (pg_name (i := 3) sc__law_right.nd rfl (Or.inl rfl))) (fun _ _ _ _ _ => pts_nil) (fun _ _ _ _ _ => (pe_mt (K := K) rfl takes0 (pv 0) c_Hands_get (hr.mono (by decide)) (pa_cons (pv 3) pa_nil)))) (pa_cons (pv 1) pa_nil)))))))) (pss_one (ps_ret pe_bl)) pss_nil)
        (pss_cons (ps_expr (pe_bm PySem.F.plainAttrs_list PySem.F.slot_list_append PySem.F.type_list_append mt_append (pv 2) (pa_cons pe_int pa_nil)))
        (pss_one (ps_ret (pe_fn (takes_of rfl rfl rfl rfl) c__law_same (hr.mono (by decide)) (by rfl) (pa_cons (pe_mt0 (K := K) rfl (takes_of rfl rfl rfl rfl) (pv 0) c_Hands_row (hr.mono (by decide))) (pa_cons (pv 1) pa_nil)))))))), ?rd⟩)
  case len => first | exact len__law_right h | (repeat (first | (obtain ⟨rfl, _⟩ := h; rfl; done) | obtain ⟨_, h⟩ := h))
  case rd =>
    obtain ⟨h, hx, l, ws, k, rfl, M, hk, q⟩ := h
    have sz100 : 100 ≤ sizeLine := by rw [sizeLine_eq]; omega
    have hz := M.sz
    walk_at "w3"
    refine ⟨recv M.ob, h, hx, l, ws, rfl, M, fun p np => ?_⟩
    have s1 := same_new (o := .lst (ws.map V.int)) np
    walk_at "w3"
    refine ⟨p, k, ws, rfl, upd_same, s1 _ _ hk, by omega, ?_⟩
    walk_at "w3"
    refine r_lenL (s1 _ _ hk) ?_
    walk_at "w3"
    rw [List.length_map]
    refine ⟨by omega, by omega, fun D hD => lc_mapR (fun i => .int (ws.getD i 0)) (fun _ => rfl) (by omega) (fun i hi acc Q2 q2 => ?_) ?_⟩
    · rw [Int.toNat_natCast] at hi
      have M5 := M.same (s1.trans (same_new (o := .lst acc) hD))
      walk_at "w3"
      refine ⟨recv M5.ob, h, hx, l, ws, _, rfl, M5, .inl ⟨_, rfl⟩, ?_⟩
      have ei : (0 : Int) + (i : Int) = (i : Int) := by omega
      rw [ei, placeOf_int, if_pos ⟨by omega, by omega⟩, Int.toNat_natCast]
      exact q2
    rw [Int.toNat_natCast, show (List.range ws.length).map (fun i => V.int (ws.getD i 0)) = ws.map V.int from by
      rw [show (fun i => V.int (ws.getD i 0)) = V.int ∘ (fun i => ws.getD i 0) from rfl, ← List.map_map, getD_rangeI]]
    have sD := same_new (o := .lst (ws.map V.int)) hD
    refine ⟨D, k, ws, rfl, upd_same, (s1.trans sD) _ _ hk, by omega, ?_⟩
    walk_at "w3"
    have np2 : ∀ {c x}, H c = some x → c ≠ p := fun g => ne_of_none g np
    have hp2 : upd (upd H p (.lst (ws.map V.int))) D (.lst (ws.map V.int)) p = some (.lst (ws.map V.int)) := sD _ _ upd_same
    refine r_app hp2 (by rw [List.length_map]; omega) ?_
    walk_at "w3"
    have s3 : Same H (upd (upd (upd H p (.lst (ws.map V.int))) D (.lst (ws.map V.int))) p (.lst (ws.map V.int ++ [.int 4]))) := fun c x g => by
      rw [upd_ne (np2 g)]
      exact (s1.trans sD) _ _ g
    have M3 := M.same s3
    refine ⟨recv M3.ob, h, hx, l, ws, rfl, M3, fun p4 np4 => ?_⟩
    have s4 := same_new (o := .lst (ws.map V.int)) np4
    exact ⟨p4, k, ws, rfl, upd_same, (s3.trans s4) _ _ hk, by omega, q _ (s3.trans s4)⟩
theorem f__law_starts_right (T : Tx K mg) : Fn P w K mg base 5 "_law_starts_right" ["_law_roots", "_law_rooted_here", "_law_told"] (sp_startsr K) := by
  have c_Roots_starts := f_Roots_starts (P := P) (w := w) (base := base) T
  have c__law_same := f__law_same (P := P) (w := w) (base := base) T
  refine T.mkFn 42 33 (d := d__law_starts_right) (N := ["_law_roots", "_law_rooted_here", "_law_told", "_law_due", "_law_word_here", "_law_found"]) (k := 4) rfl rfl rfl rfl rfl sc__law_starts_right (fun _ _ _ _ _ _ us hl => match us, hl with | [_, _, _], _ => rfl) (fun vs H Q E h => ?len) (fun cdv A outer s H vs Q E hr h => ⟨_,
      (pss_cons (ps_setLc (i := 3) (own := [("_law_word_here", 4)]) (g := gName 4) rfl sc__law_starts_right.nd rfl rfl (sw_true rfl rfl rfl (by decide +kernel)) (pi_listK (K := K) rfl (pv 1)) (blkOk_by (own := [("_law_word_here", 4)]) (N := ["_law_roots", "_law_rooted_here", "_law_told", "_law_due", "_law_word_here", "_law_found"]) (sc := defScope s__law_starts_right) (by decide +kernel)) (fun _ _ _ _ _ => (pg_name (i := 4) sc__law_starts_right.nd rfl (Or.inl rfl))) (fun _ _ _ _ _ => pts_one (PW.pt (pw_and (pt_cmpR (op_eqK (K := K) rfl hr.units) (pe_op op_mod (pv 4) pe_int) pe_int (nomark _)) (pw_and1 (pt_cmpR op_gt (pv 4) pe_int (nomark _)))))) (fun _ _ _ _ _ => (pe_op op_fdiv (pv 4) pe_int)))
        (pss_cons (ps_set (i := 5) sc__law_starts_right.nd rfl (Or.inl rfl) (pe_mt0 (K := K) rfl (takes_of rfl rfl rfl rfl) (pv 0) c_Roots_starts (hr.mono (by decide))))
        (pss_cons (ps_if (pt_not (pt_val (pe_fn (takes_of rfl rfl rfl rfl) c__law_same (hr.mono (by decide)) (by rfl) (pa_cons (pv 5) (pa_cons (pv 3) pa_nil))))) (pss_one (ps_ret pe_bl)) pss_nil)
        (pss_cons (ps_expr (pe_bm PySem.F.plainAttrs_list PySem.F.slot_list_append PySem.F.type_list_append mt_append (pv 2) (pa_cons (pe_tup (pa_cons (pv 5) (pa_cons (pv 3) pa_nil))) pa_nil)))
        (pss_one (ps_ret pe_bl)))))), ?rd⟩)
  case len => first | exact len__law_starts_right h | (repeat (first | (obtain ⟨rfl, _⟩ := h; rfl; done) | obtain ⟨_, h⟩ := h))
  case rd =>
    obtain ⟨r, rx, h, hx, l, f2, f3, f4, ws, k, t, ts, rfl, R, hk, ht, tl, q⟩ := h
    have sz100 : 2000 ≤ sizeLine := by rw [sizeLine_eq]; omega
    have hz := R.ho.sz
    walk_at "w3"
    refine ⟨⟨_, .of hk⟩, fun D hD => lc_iffL (xs := ws.map V.int) (g := gKid) (fun _ => rfl) (fun acc => .of ((same_new hD) _ _ hk)) (by rw [List.length_map]; omega) (fun i x hx acc N n1 n2 => ?_) (fun i x y hx hy acc Q2 q2 => ?_) ?_⟩
    · obtain ⟨b, rfl, -⟩ := ints_mem hx
      have e1 : (gKid (.int b)).isSome = decide (b % 2 = 1 ∧ 0 < b) := by
        show (if b % 2 = 1 ∧ 0 < b then some (V.int (b / 2)) else none).isSome = _
        split
        · rw [decide_eq_true ‹_›]; rfl
        · rw [decide_eq_false ‹_›]; rfl
      rw [e1] at n1 n2
      walk_at "w3"
      split
      · by_cases c : 0 < b
        · rw [decide_eq_true c]
          exact n1 (decide_eq_true (by omega))
        · rw [decide_eq_false c]
          exact n2 (decide_eq_false (by omega))
      · exact n2 (decide_eq_false (by omega))
    · obtain ⟨b, rfl, -⟩ := ints_mem hx
      have hu : (if b % 2 = 1 ∧ 0 < b then some (V.int (b / 2)) else none) = some y := hy
      have eu : y = .int (b / 2) := by
        split at hu
        · exact (Option.some.inj hu).symm
        · cases hu
      subst eu
      walk_at "w3"
      exact q2
    rw [kid_places R.ho.vw]
    have pl := placesW_len (ws := ws)
    have sD := same_new (o := .lst ((placesW ws).map V.int)) hD
    have hD' : upd H D (.lst ((placesW ws).map V.int)) D = some (.lst ((placesW ws).map V.int)) := upd_same
    have R1 := R.same sD
    refine ⟨recv R1.ob, r, rx, h, hx, l, ws, f2, f3, f4, rfl, R1.ob, R1.ho, fun p H2 np s2 hp => ?_⟩
    walk_at "w3"
    have hD2 := s2 _ _ hD'
    have sA := sD.trans s2
    refine ⟨p, D, _, rfl, hp, hD2, by omega, ?_⟩
    walk_at "w3"
    refine ⟨.inl ⟨rfl, _, .of (sA _ _ ht)⟩, by omega, fun tp ntp => ?_⟩
    have s3 := same_new (o := .tup [.ref p, .ref D]) ntp
    refine ⟨t, ts, _, rfl, rfl, s3 _ _ (sA _ _ ht), by omega, ?_⟩
    walk_at "w3"
    have ne : ∀ {c}, H c = none → t ≠ c := fun g => ne_of_none ht g
    have p0 := none_of sD np
    have tp0 := none_of sA ntp
    refine q p D tp _ p0 hD tp0 (ne_of_none hD' np).symm (fun b o hb g => ?_) upd_same ?_ ?_ ?_
    · rw [upd_ne hb]
      exact s3 _ _ (sA _ _ g)
    · rw [upd_ne (ne tp0).symm, upd_same]
    · rw [upd_ne (ne p0).symm]
      exact s3 _ _ hp
    · rw [upd_ne (ne hD).symm]
      exact s3 _ _ hD2
theorem f__law_rooted (T : Tx K mg) : Fn P w K mg base 4 "_law_rooted" ["_law_roots", "_law_rooted_here", "_law_hand", "_law_word_here", "_law_cell"] (sp_rooted K) := by
  have c_Hands_put := f_Hands_put (P := P) (w := w) (base := base) T
  refine T.mkFn 43 34 (d := d__law_rooted) (N := ["_law_roots", "_law_rooted_here", "_law_hand", "_law_word_here", "_law_cell", "_law_at"]) (k := 3) rfl rfl rfl rfl rfl sc__law_rooted (fun _ _ _ _ _ _ us hl => match us, hl with | [_, _, _, _, _], _ => rfl) (fun vs H Q E h => ?len) (fun cdv A outer s H vs Q E hr h => ⟨_,
      (pss_cons (ps_for (passes_of rfl) rfl (pi_listK (K := K) rfl (pe_lst (pa_cons (pv 2) (pa_cons (pe_op op_mod (pe_op op_gAdd (pv 2) (pe_op op_mod (pv 4) pe_int)) (pe_callB (call_lenK (K := K) rfl) (by rfl) (T.free 42) PySem.boot_len (pa_cons (pv 1) pa_nil))) pa_nil)))) (pg_name (i := 5) sc__law_rooted.nd rfl (Or.inl rfl)) (pss_cons (ps_if (pt_cmpR op_notN (pe_mt (K := K) rfl (takes_of rfl rfl rfl rfl) (pe_fldC (T.cls 101) (T.noat 104) (pv 0)) c_Hands_put (hr.mono (by decide)) (pa_cons (pv 5) (pa_cons (pv 3) pa_nil))) pe_non (nomark _)) (pss_one (ps_ret pe_bl)) pss_nil)
        (pss_one (ps_asg (pv 3) (pg_sub (pv 1) (pv 5) set_list)))))
        (pss_one (ps_ret pe_bl))), ?rd⟩)
  case len => first | exact len__law_rooted h | (repeat (first | (obtain ⟨rfl, _⟩ := h; rfl; done) | obtain ⟨_, h⟩ := h))
  case rd =>
    obtain ⟨r, rx, h, hx, l, f2, f3, f4, ws, k, i, n, c, rfl, R, hk, kl, hi, hn, q⟩ := h
    have sz100 : 2000 ≤ sizeLine := by rw [sizeLine_eq]; omega
    have hz := R.ho.sz
    have l0 : (0 : Int) < (ws.length : Int) := by omega
    walk_at "w3"
    refine r_lenL hk ?_
    walk_at "w3"
    rw [List.length_map]
    have j0 := Int.emod_nonneg ((i : Int) + c % 2) (show (ws.length : Int) ≠ 0 by omega)
    have j1 := Int.emod_lt_of_pos ((i : Int) + c % 2) l0
    obtain ⟨j, ej⟩ := Int.eq_ofNat_of_zero_le j0
    rw [ej] at j1 ⊢
    refine ⟨l0, by omega, fun p np => ⟨⟨_, .of upd_same⟩, ?_⟩⟩
    have s1 := same_new (o := .lst [.int (i : Int), .int (j : Int)]) np
    have pl : p ≠ l := (ne_of_none R.ho.ls np).symm
    have pk : p ≠ k := (ne_of_none hk np).symm
    refine forW_list (xs := [V.int (i : Int), .int (j : Int)]) (fun _ σ H' => ∃ o5 ws', σ = [some (.ref r), some (.ref k), some (.int (i : Int)), some (.int n), some (.int c), o5] ∧ ws'.length = ws.length ∧ RtO K H' r rx h hx l f2 f3 f4 ws' ∧ H' k = some (.lst (ws'.map V.int)) ∧ (∀ b o, b ≠ l → b ≠ k → H b = some o → H' b = some o) ∧ H' p = some (.lst [V.int (i : Int), .int (j : Int)])) ⟨_, ws, rfl, rfl, R.same s1, s1 _ _ hk, fun b o _ _ g => s1 _ _ g, upd_same⟩ ?_ ?_ ?_
    · rintro t σ H' _ ⟨o5, ws', rfl, wl, R', hk', k', hp'⟩
      exact .of hp'
    · rintro t x σ H' hx' ⟨o5, ws', rfl, wl, R', hk', k', hp'⟩
      obtain ⟨m, rfl, hm⟩ : ∃ m : Nat, x = .int (m : Int) ∧ m < ws.length := by
        have mx := List.mem_of_getElem? hx'
        simp only [List.mem_cons, List.not_mem_nil, or_false] at mx
        rcases mx with rfl | rfl
        · exact ⟨i, rfl, hi⟩
        · exact ⟨j, rfl, by omega⟩
      walk_at "w3"
      refine ⟨_, fldIs R'.ob, recv R'.ho.ob, h, hx, l, ws', _, _, rfl, R'.ho, .inl ⟨_, rfl⟩, .inl ⟨_, rfl⟩, ?_⟩
      rw [placeOf_int, if_pos ⟨by omega, by omega⟩, Int.toNat_natCast, wordV_int, if_pos hn]
      dsimp only
      walk_at "w3"
      have hk2 : upd H' l (.lst ((ws'.set m n).map V.int)) k = some (.lst (ws'.map V.int)) := by rw [upd_ne kl]; exact hk'
      refine r_setL hk2 (by omega) (by rw [List.length_map]; omega) ?_
      rw [Int.toNat_natCast, ← List.map_set]
      have nr : r ≠ l := ne_of R'.ob R'.ho.ls (by intro z; cases z)
      have nrk : r ≠ k := ne_of R'.ob hk' (by intro z; cases z)
      have nhk : h ≠ k := ne_of R'.ho.ob hk' (by intro z; cases z)
      have P1 := R'.ho.put (i := m) hn
      refine ⟨_, ws'.set m n, rfl, by rw [List.length_set]; exact wl, ⟨by rw [upd_ne nrk, upd_ne nr]; exact R'.ob, ⟨by rw [upd_ne nhk]; exact P1.ob, by rw [upd_ne kl.symm]; exact P1.ls, P1.vw, P1.sz⟩⟩, upd_same, fun b o h1 h2 g => by rw [upd_ne h2, upd_ne h1]; exact k' b o h1 h2 g, by rw [upd_ne pk, upd_ne pl]; exact hp'⟩
    · rintro σ H' ⟨o5, ws', rfl, wl, R', hk', k', hp'⟩
      exact q ws' H' wl R' hk' k'
theorem f__law_told_stays (T : Tx K mg) : Fn P w K mg base 6 "_law_told_stays" ["_law_roots", "_law_rooted_here", "_law_told"] (sp_stays K) := by
  have c__law_same := f__law_same (P := P) (w := w) (base := base) T
  have c__law_starts_right := f__law_starts_right (P := P) (w := w) (base := base) T
  refine T.mkFn 44 35 (d := d__law_told_stays) (N := ["_law_roots", "_law_rooted_here", "_law_told", "_law_found", "_law_due"]) (k := 5) rfl rfl rfl rfl rfl sc__law_told_stays (fun _ _ _ _ _ _ us hl => match us, hl with | [_, _, _], _ => rfl) (fun vs H Q E h => ?len) (fun cdv A outer s H vs Q E hr h => ⟨_,
      (pss_cons (ps_for (passes_of rfl) rfl (pi_listK (K := K) rfl (pv 2)) (pg_tup (n := 2) rfl (pgs_cons (pg_name (i := 3) sc__law_told_stays.nd rfl (Or.inl rfl)) (pgs_cons (pg_name (i := 4) sc__law_told_stays.nd rfl (Or.inl rfl)) pgs_nil))) (pss_cons (ps_if (pt_not (pt_val (pe_fn (takes_of rfl rfl rfl rfl) c__law_same (hr.mono (by decide)) (by rfl) (pa_cons (pv 3) (pa_cons (pv 4) pa_nil))))) (pss_one (ps_ret pe_bl)) pss_nil)
        (pss_one (ps_expr (pe_bm PySem.F.plainAttrs_list PySem.F.slot_list_append PySem.F.type_list_append mt_append (pv 3) (pa_cons pe_int pa_nil))))))
        (pss_one (ps_ret (pe_fn (takes_of rfl rfl rfl rfl) c__law_starts_right (hr.mono (by decide)) (by rfl) (pa_cons (pv 0) (pa_cons (pv 1) (pa_cons (pe_lst pa_nil) pa_nil))))))), ?rd⟩)
  case len => first | exact len__law_told_stays h | (repeat (first | (obtain ⟨rfl, _⟩ := h; rfl; done) | obtain ⟨_, h⟩ := h))
  case rd =>
    obtain ⟨r, rx, h, hx, l, f2, f3, f4, ws, k, t, ts, L, rfl, R, hk, ht, tl, To, ap, q⟩ := h
    have sz100 : 2000 ≤ sizeLine := by rw [sizeLine_eq]; omega
    have tL : ts.length = L.length := by rw [To.eq, List.length_map]
    have off : ∀ {c x}, H c = some x → (∀ xs, x ≠ .lst xs) → ∀ y ∈ L, c ≠ y.f := fun g n y m => ne_of g (To.at_ y m).2.1 (n _)
    walk_at "w3"
    refine ⟨⟨_, .of ht⟩, forW_list (xs := ts) (fun i σ H' => ∃ o3 o4, σ = [some (.ref r), some (.ref k), some (.ref t), o3, o4] ∧ ∀ b o, (∀ j x, j < i → L[j]? = some x → b ≠ x.f) → H b = some o → H' b = some o) ⟨_, _, rfl, fun b o _ g => g⟩ ?_ ?_ ?_⟩
    · rintro i σ H' hi ⟨o3, o4, rfl, k'⟩
      exact .of (k' _ _ (fun j x _ g => (ap x (List.mem_of_getElem? g)).2.2.symm) ht)
    · rintro i v σ H' hv ⟨o3, o4, rfl, k'⟩
      rw [To.eq, List.getElem?_map] at hv
      cases ex : L[i]? with
      | none => rw [ex] at hv; cases hv
      | some x =>
        rw [ex] at hv
        cases hv
        have mx := List.mem_of_getElem? ex
        obtain ⟨h1, h2, h3, h4⟩ := To.at_ x mx
        have il := (List.getElem?_eq_some_iff.mp ex).1
        have nf : ∀ j y, j < i → L[j]? = some y → x.f ≠ y.f := fun j y hj ey e => by
          have jl := (List.getElem?_eq_some_iff.mp ey).1
          have n := List.pairwise_iff_getElem.mp To.nd j i (by rw [List.length_map]; exact jl) (by rw [List.length_map]; exact il) hj
          rw [List.getElem_map, List.getElem_map, (List.getElem?_eq_some_iff.mp ey).2, (List.getElem?_eq_some_iff.mp ex).2] at n
          exact n e.symm
        have g1 := k' _ _ (fun j y _ g => off h1 (fun _ z => by cases z) y (List.mem_of_getElem? g)) h1
        have g2 := k' _ _ nf h2
        have g3 := k' _ _ (fun j y _ g => (To.fd y (List.mem_of_getElem? g) x mx).symm) h3
        walk_at "w3"
        refine ⟨_, .inl (.inl g1), rfl, ?_⟩
        walk_at "w3"
        refine ⟨x.f, x.d, x.P, rfl, g2, g3, by omega, ?_⟩
        walk_at "w3"
        refine r_app g2 (by rw [List.length_map]; omega) ?_
        refine ⟨_, _, rfl, fun b o hb g => ?_⟩
        rw [upd_ne (hb i x (Nat.lt_succ_self _) ex)]
        exact k' b o (fun j y hj => hb j y (Nat.lt_succ_of_lt hj)) g
    · rintro σ H' ⟨o3, o4, rfl, k'⟩
      have k2 : ∀ b o, (∀ x ∈ L, b ≠ x.f) → H b = some o → H' b = some o := fun b o hb g => k' b o (fun j x _ e => hb x (List.mem_of_getElem? e)) g
      have kk := k2 _ _ (fun x m => (ap x m).2.1.symm) hk
      have RR : RtO K H' r rx h hx l f2 f3 f4 ws := ⟨k2 _ _ (fun y m => off R.ob (fun _ z => by cases z) y m) R.ob, ⟨k2 _ _ (fun y m => off R.ho.ob (fun _ z => by cases z) y m) R.ho.ob, k2 _ _ (fun x m => (ap x m).1.symm) R.ho.ls, R.ho.vw, R.ho.sz⟩⟩
      walk_at "w3"
      refine ⟨by omega, fun p np => ?_⟩
      have s1 := same_new (o := .lst []) np
      refine ⟨r, rx, h, hx, l, f2, f3, f4, ws, k, p, [], rfl, RR.same s1, s1 _ _ kk, upd_same, by decide, fun f d tp H2 nf nd ntp fd k3 e1 e2 e3 e4 => q H2 fun b o hb g => ?_⟩
      have gb := k2 b o hb g
      exact k3 _ _ (ne_of_none gb np) (s1 _ _ gb)
end

local macro_rules | `(tactic| walk_at "w3") => `(tactic| try simp only [↓x_var0, ↓x_varS, ↓x_c, ↓x_op, ↓x_un, ↓x_cb, ↓x_nil, ↓x_cons, ↓x_test, ↓x_b, ↓x_ex, ↓x_and, ↓x_or, ↓x_not, ↓x_andV, ↓x_orV, ↓x_notV, ↓x_tif, ↓x_chain, ↓x_menu, ↓x_menuI, ↓x_lst, ↓x_tup, ↓x_dnew, ↓x_callW, ↓x_callN, ↓x_seq, ↓x_next, ↓x_ret, ↓x_retN, ↓x_drop, ↓x_ifS, ↓x_asg, ↓x_name, ↓x_raise, ↓x_fld, ↓x_setF, ↓x_meth, ↓x_make, ↓x_sub, ↓r_min, ↓r_max, ↓x_yes, ↓x_for, ↓x_cut, ↓x_lc, ↓x_rng1, ↓x_rng2, ↓x_lst1, ↓x_itup, ↓x_rng3, ↓x_three, ↓x_lstg, ↓x_tupg, ↓x_adrS, ↓x_one, ↓x_two, ↓x_adr, ↓x_sl, ↓x_np, ↓x_pt, ↓x_int, ↓x_bm, ↓x_bm0, ↓x_consg, ↓x_nilg, ↓x_dget2, ↓x_dget1, ↓x_dget, ↓x_din, ↓x_dni, ↓x_dput, ↓x_dpop2, ↓r_isB, ↓r_notB, ↓x_enum, wipe, List.map_cons, List.map_nil, ↓x_isT, ↓r_isiII, ↓r_isiBB, ↓r_isiIB, ↓r_isiSS, ↓r_neNS, ↓r_neSN, ↓r_neNN, ↓r_eqNS, ↓r_eqSN, ↓r_eqNN, ↓r_eqIS, ↓r_neIS, ↓r_neSI, ↓r_neBS, ↓r_eqBB, ↓r_neBB, ↓x_start, ↓x_K, ↓x_start0, ↓r_i0, ↓r_i, ↓r_u, ↓r_addI, ↓r_addS, ↓r_mulI, ↓r_mulS, ↓r_eqI, ↓r_neI, ↓r_eqS, ↓r_neS, ↓r_absI, ↓r_intI, ↓r_intB, List.length_cons, List.length_nil, List.replicate, List.set_cons_zero, List.set_cons_succ, decide_eq_true_eq, Bool.not_eq_true', decide_eq_false_iff_not, if_true, if_false, Bool.false_eq_true, Bool.true_eq_false, ite_true, ite_false, Bool.not_true, Bool.not_false, c_div, n_ten, c_pow, not_true_eq_false, not_false_eq_true, decide_true, decide_false, true_and, and_true, and_self, true_or, or_true, Int.reduceLT, Int.reduceLE, Int.reduceMul, Int.reduceAdd, Int.reduceSub, Int.reducePow, Int.reduceNeg, Int.reduceDiv, Int.reduceMod, Nat.reducePow, Int.reduceToNat, Int.reduceEq, Int.reduceNe, Nat.reduceLT, Nat.reduceLeDiff, Nat.reduceAdd, ↓x_whole, ↓x_kind, Int.natCast_one])
def sp_law (K : PySem.W.Frag) : Sp := fun vs H Q _ => ∃ (a : Addr) (ns : List Int), vs = [.ref a] ∧ SqL K H a (ns.map V.int) ∧ ns.length ≤ 63 ∧ ∀ H', Q (.bl true) H'
structure R7 where
  (hd hx hl r rx h2 hx2 l2 k k2 t e q1 : Addr) (f2 f3 f4 : V) (cs : List Int) (n : Nat)
def R7.M (R : R7) : List Addr := [R.hl, R.k, R.l2, R.k2, R.t, R.e]
structure I7 (K : PySem.W.Frag) (H0 : Hp) (R : R7) (H : Hp) (wh ws w2 : List Int) (ts : List V) (L : List TP) (hs : List V) (i j : Nat) : Prop where
  ho : HandO K H R.hd R.hx R.hl wh
  hk : H R.k = some (.lst (ws.map V.int))
  ro : RtO K H R.r R.rx R.h2 R.hx2 R.l2 R.f2 R.f3 R.f4 w2
  hr : H R.k2 = some (.lst (w2.map V.int))
  ht : H R.t = some (.lst ts)
  tt : TsO H ts L
  lo : ∀ x ∈ L, x.f ∉ R.M ∧ x.d ∉ R.M
  he : H R.e = some (.lst hs)
  hh : ∀ v ∈ hs, ∃ tp x y, ∃ P : List Int, v = .ref tp ∧ H tp = some (.tup [.ref x, .ref y]) ∧ H x = some (.lst (P.map V.int)) ∧ H y = some (.lst (P.map V.int)) ∧ P.length ≤ 6 ∧ x ∉ R.M ∧ y ∉ R.M ∧ ∀ z ∈ L, z.f ≠ x ∧ z.f ≠ y
  ct : H R.q1 = some (.lst (R.cs.map V.int))
  cq : R.q1 ∉ R.M
  sm : Same H0 H
  z0 : ∀ c ∈ R.M, H0 c = none
  nd : R.M.Nodup
  l1 : wh.length = R.n
  l2 : ws.length = R.n
  l3 : w2.length = R.n
  l4 : ts.length ≤ j
  l5 : hs.length ≤ i
  n6 : 1 ≤ R.n ∧ R.n ≤ 6
theorem I7.same {K H0 R H H' wh ws w2 ts L hs i j} (I : I7 K H0 R H wh ws w2 ts L hs i j) (s : Same H H') : I7 K H0 R H' wh ws w2 ts L hs i j :=
  { I with ho := I.ho.same s, hk := s _ _ I.hk, ro := I.ro.same s, hr := s _ _ I.hr, ht := s _ _ I.ht, tt := I.tt.same s, he := s _ _ I.he, ct := s _ _ I.ct, sm := I.sm.trans s,
           hh := fun v m => let ⟨tp, x, y, P, e, a, b, c, r⟩ := I.hh v m; ⟨tp, x, y, P, e, s _ _ a, s _ _ b, s _ _ c, r⟩ }
theorem not_M {H : Hp} {M : List Addr} {c : Addr} {o : HO} (ml : ∀ d ∈ M, ∃ xs, H d = some (.lst xs)) (h : H c = some o) (n : ∀ xs, o ≠ .lst xs) : c ∉ M := fun m => by
  obtain ⟨xs, e⟩ := ml c m
  rw [h] at e
  exact n _ (Option.some.inj e)
theorem I7.ml {K H0 R H wh ws w2 ts L hs i j} (I : I7 K H0 R H wh ws w2 ts L hs i j) : ∀ d ∈ R.M, ∃ xs, H d = some (.lst xs) := fun d m => by
  simp only [R7.M, List.mem_cons, List.not_mem_nil, or_false] at m
  rcases m with rfl | rfl | rfl | rfl | rfl | rfl
  · exact ⟨_, I.ho.ls⟩
  · exact ⟨_, I.hk⟩
  · exact ⟨_, I.ro.ho.ls⟩
  · exact ⟨_, I.hr⟩
  · exact ⟨_, I.ht⟩
  · exact ⟨_, I.he⟩
/-- what the lists of M hold may change -/
theorem I7.step {K H0 R H H' wh ws w2 ts L hs i j wh' ws' w2'} (I : I7 K H0 R H wh ws w2 ts L hs i j) (k : ∀ b o, b ∉ R.M → H b = some o → H' b = some o)
    (e1 : H' R.hl = some (.lst (wh'.map V.int))) (e2 : H' R.k = some (.lst (ws'.map V.int))) (e3 : H' R.l2 = some (.lst (w2'.map V.int))) (e4 : H' R.k2 = some (.lst (w2'.map V.int))) (e5 : H' R.t = some (.lst ts)) (e6 : H' R.e = some (.lst hs))
    (v1 : Vw wh') (v2 : Vw w2') (l1 : wh'.length = R.n) (l2 : ws'.length = R.n) (l3 : w2'.length = R.n) : I7 K H0 R H' wh' ws' w2' ts L hs i j :=
  have ob : ∀ {c C d fs}, H c = some (.ins C d fs) → H' c = some (.ins C d fs) := fun g => k _ _ (not_M I.ml g (fun _ z => by cases z)) g
  { I with ho := ⟨ob I.ho.ob, e1, v1, by rw [l1]; exact I.n6.2⟩, hk := e2, ro := ⟨ob I.ro.ob, ob I.ro.ho.ob, e3, v2, by rw [l3]; exact I.n6.2⟩, hr := e4, ht := e5, he := e6, ct := k _ _ I.cq I.ct, l1 := l1, l2 := l2, l3 := l3,
           tt := { I.tt with at_ := fun x m => let ⟨a, b, c, d⟩ := I.tt.at_ x m; ⟨k _ _ (not_M I.ml a (fun _ z => by cases z)) a, k _ _ (I.lo x m).1 b, k _ _ (I.lo x m).2 c, d⟩ },
           hh := fun v m => let ⟨tp, x, y, P, e, a, b, c, l, nx, ny, r⟩ := I.hh v m; ⟨tp, x, y, P, e, k _ _ (not_M I.ml a (fun _ z => by cases z)) a, k _ _ nx b, k _ _ ny c, l, nx, ny, r⟩,
           sm := fun b o g => k b o (fun m => by rw [I.z0 b m] at g; cases g) (I.sm b o g) }
theorem I7.ne {K H0 R H wh ws w2 ts L hs i j} (I : I7 K H0 R H wh ws w2 ts L hs i j) : (R.hl ≠ R.k ∧ R.hl ≠ R.l2 ∧ R.hl ≠ R.k2 ∧ R.hl ≠ R.t ∧ R.hl ≠ R.e) ∧ (R.k ≠ R.l2 ∧ R.k ≠ R.k2 ∧ R.k ≠ R.t ∧ R.k ≠ R.e) ∧ (R.l2 ≠ R.k2 ∧ R.l2 ≠ R.t ∧ R.l2 ≠ R.e) ∧ (R.k2 ≠ R.t ∧ R.k2 ≠ R.e) ∧ R.t ≠ R.e := by
  have h := I.nd
  simpa only [R7.M, List.nodup_cons, List.mem_cons, List.not_mem_nil, or_false, not_or, List.nodup_nil, and_true, not_false_eq_true, ne_eq] using h
theorem I7.m {R : R7} {b : Addr} (h : b ∉ R.M) : b ≠ R.hl ∧ b ≠ R.k ∧ b ≠ R.l2 ∧ b ≠ R.k2 ∧ b ≠ R.t ∧ b ≠ R.e := by
  simpa only [R7.M, List.mem_cons, List.not_mem_nil, or_false, not_or, ne_eq] using h
theorem rep_flat {n : Nat} : (List.replicate n [V.int (-1)]).flatten = (List.replicate n (-1 : Int)).map V.int := by
  induction n with
  | zero => rfl
  | succ n ih => rw [List.replicate_succ, List.flatten_cons, ih, List.replicate_succ]; rfl
theorem I7.held {K H0 R H H' wh ws w2 ts L hs i j x y tp} {P : List Int} (I : I7 K H0 R H wh ws w2 ts L hs i j) (k : ∀ b o, b ≠ R.e → H b = some o → H' b = some o) (nx : H x = none) (ny : H y = none) (he : H' R.e = some (.lst (hs ++ [.ref tp]))) (e1 : H' tp = some (.tup [.ref x, .ref y])) (e2 : H' x = some (.lst (P.map V.int))) (e3 : H' y = some (.lst (P.map V.int))) (hl : P.length ≤ 6) : I7 K H0 R H' wh ws w2 ts L (hs ++ [.ref tp]) (i + 1) j := by
  have fr : ∀ {c}, H c = none → c ∉ R.M := fun g m => let ⟨xs, e⟩ := I.ml _ m; by rw [g] at e; cases e
  obtain ⟨⟨-, -, -, -, n1⟩, ⟨-, -, -, n2⟩, ⟨-, -, n3⟩, ⟨-, n4⟩, n5⟩ := I.ne
  have kM : ∀ b o, b ∉ R.M → H b = some o → H' b = some o := fun b o h g => k b o (I7.m h).2.2.2.2.2 g
  have ob : ∀ {c C d fs}, H c = some (.ins C d fs) → H' c = some (.ins C d fs) := fun g => k _ _ (ne_of g I.he (by intro z; cases z)) g
  refine { I with ho := ⟨ob I.ho.ob, k _ _ n1 I.ho.ls, I.ho.vw, I.ho.sz⟩, hk := k _ _ n2 I.hk, ro := ⟨ob I.ro.ob, ob I.ro.ho.ob, k _ _ n3 I.ro.ho.ls, I.ro.ho.vw, I.ro.ho.sz⟩, hr := k _ _ n4 I.hr, ht := k _ _ n5 I.ht, he := he, ct := kM _ _ I.cq I.ct, tt := { I.tt with at_ := fun x m => let ⟨a, b, c, d⟩ := I.tt.at_ x m; ⟨kM _ _ (not_M I.ml a (fun _ z => by cases z)) a, kM _ _ (I.lo x m).1 b, kM _ _ (I.lo x m).2 c, d⟩ }, hh := fun v m => ?_, sm := fun b o g => kM b o (fun m => by rw [I.z0 b m] at g; cases g) (I.sm b o g), l5 := by rw [List.length_append]; exact Nat.succ_le_succ I.l5 }
  rcases List.mem_append.mp m with m | m
  · obtain ⟨tp', x', y', P', e, a, b, c, l, nx', ny', r⟩ := I.hh v m
    exact ⟨tp', x', y', P', e, kM _ _ (not_M I.ml a (fun _ z => by cases z)) a, kM _ _ nx' b, kM _ _ ny' c, l, nx', ny', r⟩
  · exact ⟨tp, x, y, P, List.mem_singleton.mp m, e1, e2, e3, hl, fr nx, fr ny, fun z mz => ⟨ne_of_none (I.tt.at_ z mz).2.1 nx, ne_of_none (I.tt.at_ z mz).2.1 ny⟩⟩
theorem I7.told {K H0 R H H' wh ws w2 ts L hs i j f d tp} {P : List Int} (I : I7 K H0 R H wh ws w2 ts L hs i j) (k : ∀ b o, b ≠ R.t → H b = some o → H' b = some o) (nf : H f = none) (nd : H d = none) (fd : f ≠ d) (ht : H' R.t = some (.lst (ts ++ [.ref tp]))) (e1 : H' tp = some (.tup [.ref f, .ref d])) (e2 : H' f = some (.lst (P.map V.int))) (e3 : H' d = some (.lst (P.map V.int))) (hl : P.length ≤ 6) : I7 K H0 R H' wh ws w2 (ts ++ [.ref tp]) (L ++ [⟨tp, f, d, P⟩]) hs i (j + 1) := by
  have fr : ∀ {c}, H c = none → c ∉ R.M := fun g m => let ⟨xs, e⟩ := I.ml _ m; by rw [g] at e; cases e
  obtain ⟨⟨-, -, -, n1, -⟩, ⟨-, -, n2, -⟩, ⟨-, n3, -⟩, ⟨n4, -⟩, n5⟩ := I.ne
  have kM : ∀ b o, b ∉ R.M → H b = some o → H' b = some o := fun b o h g => k b o (I7.m h).2.2.2.2.1 g
  have ob : ∀ {c C d fs}, H c = some (.ins C d fs) → H' c = some (.ins C d fs) := fun g => k _ _ (ne_of g I.ht (by intro z; cases z)) g
  have t' : TsO H' ts L := { I.tt with at_ := fun x m => let ⟨a, b, c, d⟩ := I.tt.at_ x m; ⟨kM _ _ (not_M I.ml a (fun _ z => by cases z)) a, kM _ _ (I.lo x m).1 b, kM _ _ (I.lo x m).2 c, d⟩ }
  refine { I with ho := ⟨ob I.ho.ob, k _ _ n1 I.ho.ls, I.ho.vw, I.ho.sz⟩, hk := k _ _ n2 I.hk, ro := ⟨ob I.ro.ob, ob I.ro.ho.ob, k _ _ n3 I.ro.ho.ls, I.ro.ho.vw, I.ro.ho.sz⟩, hr := k _ _ n4 I.hr, ht := ht, he := k _ _ n5.symm I.he, ct := kM _ _ I.cq I.ct, tt := I.tt.snoc t' nf nd fd e1 e2 e3 hl, lo := fun x m => ?_, hh := fun v m => ?_, sm := fun b o g => kM b o (fun m => by rw [I.z0 b m] at g; cases g) (I.sm b o g), l4 := by rw [List.length_append]; exact Nat.succ_le_succ I.l4 }
  · rcases List.mem_append.mp m with m | m
    · exact I.lo x m
    · rw [List.mem_singleton.mp m]
      exact ⟨fr nf, fr nd⟩
  · obtain ⟨tp', x', y', P', e, a, b, c, l, nx', ny', r⟩ := I.hh v m
    refine ⟨tp', x', y', P', e, kM _ _ (not_M I.ml a (fun _ z => by cases z)) a, kM _ _ nx' b, kM _ _ ny' c, l, nx', ny', fun z mz => ?_⟩
    rcases List.mem_append.mp mz with mz | mz
    · exact r z mz
    · rw [List.mem_singleton.mp mz]
      exact ⟨(ne_of_none b nf).symm, (ne_of_none c nf).symm⟩
theorem thing_off {H H' : Hp} {l : Addr} {xs ys : List V} {v : V} (h : H l = some (.lst xs)) (h' : H' l = some (.lst ys)) (k : ∀ b o, b ≠ l → H b = some o → H' b = some o) (th : Thing H v) : Thing H' v := th.imp id fun ⟨t, g, ne⟩ => ⟨t, by
  cases v with
  | ref b =>
    have h1 : tyO (H b) = some t := g
    show tyO (H' b) = some t
    by_cases c : b = l
    · subst c
      rw [h] at h1
      rw [h']
      exact h1
    · cases e : H b with
      | none =>
        rw [e] at h1
        cases h1
      | some o =>
        rw [e] at h1
        rw [k b o c e]
        exact h1
  | _ => exact g, ne⟩
theorem placesW6 {ws : List Int} (h : ws.length ≤ 6) : (placesW ws).length ≤ 6 := Nat.le_trans placesW_len h
section
variable {P : Program} {w : World} {K : PySem.W.Frag} {mg : Str → Option Value} {base : Heap}
theorem f_law (T : Tx K mg) : Fn P w K mg base 7 "law" ["_law_script"] (sp_law K) := by
  have c__law_draw := f__law_draw (P := P) (w := w) (base := base) T
  have c__law_made := f__law_made (P := P) (w := w) (base := base) T
  have c_Roots___init__ := f_Roots___init__ (P := P) (w := w) (base := base) T
  have c__law_starts_right := f__law_starts_right (P := P) (w := w) (base := base) T
  have c__law_right := f__law_right (P := P) (w := w) (base := base) T
  have c_Hands_row := f_Hands_row (P := P) (w := w) (base := base) T
  have c__law_is_word := f__law_is_word (P := P) (w := w) (base := base) T
  have c__law_put := f__law_put (P := P) (w := w) (base := base) T
  have c__law_word := f__law_word (P := P) (w := w) (base := base) T
  have c__law_rooted := f__law_rooted (P := P) (w := w) (base := base) T
  have c__law_get := f__law_get (P := P) (w := w) (base := base) T
  have c__law_same := f__law_same (P := P) (w := w) (base := base) T
  have c__law_told_stays := f__law_told_stays (P := P) (w := w) (base := base) T
  refine T.mkFn 45 36 (d := d_law) (N := ["_law_script", "_law_many", "_law_hands", "_law_kept", "_law_roots", "_law_rooted_here", "_law_told", "_law_held", "_law_cell", "_law_hand", "_law_is_hand", "_law_before", "_law_due", "_law_found"]) (k := 6) rfl rfl rfl rfl rfl sc_law (fun _ _ _ _ _ _ us hl => match us, hl with | [_], _ => rfl) (fun vs H Q E h => ?len) (fun cdv A outer s H vs Q E hr h => ⟨_,
      (pss_cons (ps_set (i := 1) sc_law.nd rfl (Or.inl rfl) (pe_menu (pa_cons (pe_op op_mod (pe_fn (takes_of rfl rfl rfl rfl) c__law_draw (hr.mono (by decide)) (by rfl) (pa_cons (pv 0) (pa_cons pe_int pa_nil))) pe_int) (pa_cons pe_int (pa_cons pe_int pa_nil))) (pe_op op_mod (pe_op op_fdiv (pe_fn (takes_of rfl rfl rfl rfl) c__law_draw (hr.mono (by decide)) (by rfl) (pa_cons (pv 0) (pa_cons pe_int pa_nil))) pe_int) pe_int) (fun _ _ => rfl)))
        (pss_cut (ps_if (pt_cmpR (op_eqK (K := K) rfl hr.units) (pe_op op_mod (pe_op op_fdiv (pe_fn (takes_of rfl rfl rfl rfl) c__law_draw (hr.mono (by decide)) (by rfl) (pa_cons (pv 0) (pa_cons pe_int pa_nil))) pe_int) pe_int) pe_int (nomark _)) (pss_one (ps_set (i := 1) sc_law.nd rfl (Or.inl rfl) (pe_menu (pa_cons pe_bl (pa_cons pe_bl (pa_cons pe_str (pa_cons pe_non (pa_cons (pe_lst (pa_cons pe_int pa_nil)) (pa_cons (pe_op op_pow pe_int pe_int) (pa_cons (pe_un un_neg pe_int) pa_nil))))))) (pe_op op_mod (pe_op op_fdiv (pe_fn (takes_of rfl rfl rfl rfl) c__law_draw (hr.mono (by decide)) (by rfl) (pa_cons (pv 0) (pa_cons pe_int pa_nil))) pe_int) pe_int) (fun _ _ => rfl)))) pss_nil)
        (pss_cons (ps_set (i := 2) sc_law.nd rfl (Or.inl rfl) (pe_fn (takes_of rfl rfl rfl rfl) c__law_made (hr.mono (by decide)) (by rfl) (pa_cons (pv 1) pa_nil)))
        (pss_cut (ps_if (PW.pt (pw_or (pt_cmpR op_gIsB (pv 1) pe_bl (nomark _)) (pw_or1 (pt_cmpR (op_ninTG (K := K) rfl (hu65 hr)) (pv 1) (pe_tup (pa_cons pe_int (pa_cons pe_int (pa_cons pe_int (pa_cons pe_int (pa_cons pe_int (pa_cons pe_int pa_nil))))))) (by rfl))))) (pss_one (ps_ret (pe_cmpR (op_eqK (K := K) rfl hr.units) (pv 2) pe_str (nomark _)))) pss_nil)
        (pss_cut (ps_if (pt_val (pe_callB (call_isiK (K := K) rfl) (by rfl) (T.free 41) (by decide +kernel) (pa_cons (pv 2) (pa_cons (pe_ty (T := "str") (T.free 49) (by decide +kernel) (by rfl)) pa_nil)))) (pss_one (ps_ret pe_bl)) pss_nil)
        (pss_cons (ps_set (i := 3) sc_law.nd rfl (Or.inl rfl) (pe_op op_gMul (pe_lst (pa_cons (pe_un un_neg pe_int) pa_nil)) (pv 1)))
        (pss_cons (ps_set (i := 4) sc_law.nd rfl (Or.inl rfl) (pe_mk (K := K) rfl (takes_of rfl rfl rfl rfl) c_Roots___init__ (hr.mono (by decide)) (by rfl) (pa_cons (pv 1) pa_nil)))
        (pss_cons (ps_set (i := 5) sc_law.nd rfl (Or.inl rfl) (pe_op op_gMul (pe_lst (pa_cons (pe_un un_neg pe_int) pa_nil)) (pv 1)))
        (pss_cons (ps_set (i := 6) sc_law.nd rfl (Or.inl rfl) (pe_lst pa_nil))
        (pss_cons (ps_set (i := 7) sc_law.nd rfl (Or.inl rfl) (pe_lst pa_nil))
        (pss_cut (ps_if (PW.pt (pw_or (pt_not (pt_val (pe_fn (takes_of rfl rfl rfl rfl) c__law_right (hr.mono (by decide)) (by rfl) (pa_cons (pv 2) (pa_cons (pv 3) pa_nil))))) (pw_or1 (pt_not (pt_val (pe_fn (takes_of rfl rfl rfl rfl) c__law_starts_right (hr.mono (by decide)) (by rfl) (pa_cons (pv 4) (pa_cons (pv 5) (pa_cons (pv 6) pa_nil))))))))) (pss_one (ps_ret pe_bl)) pss_nil)
        (pss_cons (ps_for (passes_of rfl) rfl (pi_listK (K := K) rfl (pe_slice (sl_listK (K := K) rfl) (pv 0) (po_some pe_int) (po_some pe_int))) (pg_name (i := 8) sc_law.nd rfl (Or.inl rfl)) (pss_cons (ps_set (i := 9) sc_law.nd rfl (Or.inl rfl) (pe_op op_sub (pe_op op_mod (pv 8) pe_int) pe_int))
        (pss_cut (ps_if (pt_cmpR (op_eqK (K := K) rfl hr.units) (pe_op op_mod (pv 8) pe_int) pe_int (nomark _)) (pss_one (ps_set (i := 9) sc_law.nd rfl (Or.inl rfl) (pe_menu (pa_cons pe_bl (pa_cons pe_bl (pa_cons pe_non (pa_cons pe_str (pa_cons (pe_op op_pow pe_int pe_int) (pa_cons (pe_lst (pa_cons pe_int pa_nil)) pa_nil)))))) (pe_op op_mod (pe_op op_fdiv (pv 8) pe_int) pe_int) (fun _ _ => rfl)))) pss_nil)
        (pss_cut (ps_set (i := 10) sc_law.nd rfl (Or.inl rfl) (pe_and (pe_cmpR (op_neK (K := K) rfl hr.units) (pe_op op_mod (pv 8) pe_int) pe_int (nomark _)) (pe_one (pe_chain op_le op_lt pe_int (pv 9) (pv 1)))))
        (pss_cons (ps_set (i := 11) sc_law.nd rfl (Or.inl rfl) (pe_mt0 (K := K) rfl (takes_of rfl rfl rfl rfl) (pv 2) c_Hands_row (hr.mono (by decide))))
        (pss_cons (ps_set (i := 12) sc_law.nd rfl (Or.inl rfl) pe_str)
        (pss_cut (ps_if (pt_val (pv 10)) (pss_one (ps_set (i := 12) sc_law.nd rfl (Or.inl rfl) (pe_ifExp (pt_val (pe_fn (takes_of rfl rfl rfl rfl) c__law_is_word (hr.mono (by decide)) (by rfl) (pa_cons (pe_op op_fdiv (pv 8) pe_int) pa_nil))) pe_non pe_str))) pss_nil)
        (pss_cons (ps_expr (pe_bm PySem.F.plainAttrs_list PySem.F.slot_list_append PySem.F.type_list_append mt_append (pv 7) (pa_cons (pe_tup (pa_cons (pv 11) (pa_cons (pe_callTy (call_listK (K := K) rfl) (by rfl) (T.free 50) (by decide +kernel) (pa_cons (pv 3) pa_nil)) pa_nil))) pa_nil)))
        (pss_cut (ps_if (pt_cmpR (op_neK (K := K) rfl hr.units) (pe_fn (takes_of rfl rfl rfl rfl) c__law_put (hr.mono (by decide)) (by rfl) (pa_cons (pv 2) (pa_cons (pv 9) (pa_cons (pe_fn (takes_of rfl rfl rfl rfl) c__law_word (hr.mono (by decide)) (by rfl) (pa_cons (pe_op op_fdiv (pv 8) pe_int) pa_nil)) pa_nil)))) (pv 12) (nomark _)) (pss_one (ps_ret pe_bl)) pss_nil)
        (pss_cut (ps_if (pt_cmpR op_isN (pv 12) pe_non (nomark _)) (pss_cons (ps_asg (pe_fn (takes_of rfl rfl rfl rfl) c__law_word (hr.mono (by decide)) (by rfl) (pa_cons (pe_op op_fdiv (pv 8) pe_int) pa_nil)) (pg_sub (pv 3) (pv 9) set_list))
        (pss_one (ps_if (pt_not (pt_val (pe_fn (takes_of rfl rfl rfl rfl) c__law_rooted (hr.mono (by decide)) (by rfl) (pa_cons (pv 4) (pa_cons (pv 5) (pa_cons (pv 9) (pa_cons (pe_ix (ix_seqK (K := K) rfl) (pv 3) (pv 9) (fun _ _ => rfl)) (pa_cons (pe_op op_fdiv (pv 8) pe_int) pa_nil)))))))) (pss_one (ps_ret pe_bl)) pss_nil))) pss_nil)
        (pss_cut (ps_if (pt_not (pt_val (pe_fn (takes_of rfl rfl rfl rfl) c__law_starts_right (hr.mono (by decide)) (by rfl) (pa_cons (pv 4) (pa_cons (pv 5) (pa_cons (pv 6) pa_nil)))))) (pss_one (ps_ret pe_bl)) pss_nil)
        (pss_one (ps_if (PW.pt (pw_or (PW.pt (pw_and (pt_not (pt_val (pv 10))) (pw_and1 (pt_cmpR (op_neK (K := K) rfl hr.units) (pe_fn (takes_of rfl rfl rfl rfl) c__law_get (hr.mono (by decide)) (by rfl) (pa_cons (pv 2) (pa_cons (pv 9) pa_nil))) pe_str (nomark _))))) (pw_or1 (pt_not (pt_val (pe_fn (takes_of rfl rfl rfl rfl) c__law_right (hr.mono (by decide)) (by rfl) (pa_cons (pv 2) (pa_cons (pv 3) pa_nil)))))))) (pss_one (ps_ret pe_bl)) pss_nil)))))))))))))
        (pss_one (ps_ret (pe_and (pe_fn (takes_of rfl rfl rfl rfl) c__law_told_stays (hr.mono (by decide)) (by rfl) (pa_cons (pv 4) (pa_cons (pv 5) (pa_cons (pv 6) pa_nil)))) (pe_one (pe_callB (call_allK (K := K) rfl rfl) (by rfl) (T.free 46) (by decide +kernel) (pa_cons (pe_lc (own := [("_law_found", 13), ("_law_due", 12)]) (g := gTup K 2 (gCons (gName 13) (gCons (gName 12) gNil))) rfl sc_law.nd (pi_listK (K := K) rfl (pv 7)) (blkOk_by (own := [("_law_found", 13), ("_law_due", 12)]) (N := ["_law_script", "_law_many", "_law_hands", "_law_kept", "_law_roots", "_law_rooted_here", "_law_told", "_law_held", "_law_cell", "_law_hand", "_law_is_hand", "_law_before", "_law_due", "_law_found"]) (sc := defScope s_law) (by decide +kernel)) (fun _ _ _ _ _ => (pg_tup (n := 2) rfl (pgs_cons (pg_name (i := 13) sc_law.nd rfl (Or.inl rfl)) (pgs_cons (pg_name (i := 12) sc_law.nd rfl (Or.inl rfl)) pgs_nil)))) (fun _ _ _ _ _ => pts_nil) (fun _ _ _ _ _ => (pe_fn takes0 c__law_same (hr.mono (by decide)) (by rfl) (pa_cons (pv 13) (pa_cons (pv 12) pa_nil))))) pa_nil)))))))))))))))))), ?rd⟩)
  case len => first | exact len_law h | (repeat (first | (obtain ⟨rfl, _⟩ := h; rfl; done) | obtain ⟨_, h⟩ := h))
  case rd =>
    obtain ⟨a, ns, rfl, hS, hl, q⟩ := h
    have sz : 2000 ≤ sizeLine := by rw [sizeLine_eq]; omega
    walk_at "w3"
    refine ⟨a, _, ns, rfl, hS, by omega, ?_⟩
    walk_at "w3"
    refine ⟨by omega, a, _, ns, rfl, hS, by omega, ?_⟩
    walk_at "w3"
    obtain ⟨v0, hv0, e0⟩ : ∃ v, atI [V.int (cell ns 0 % 8), V.int 3, V.int 6] (cell ns 0 / 8 % 3) = some v ∧ ∃ m, v = .int m := by
      have cs : cell ns 0 / 8 % 3 = 0 ∨ cell ns 0 / 8 % 3 = 1 ∨ cell ns 0 / 8 % 3 = 2 := by omega
      rcases cs with e | e | e <;> rw [e] <;> exact ⟨_, rfl, _, rfl⟩
    obtain ⟨m0, rfl⟩ := e0
    refine ⟨_, hv0, ?_⟩
    let V7 : Hp → V → Prop := fun H' v => Thing H' v ∧ ((∃ m, v = .int m) ∨ (∃ b, v = .bl b) ∨ v = .str "3" ∨ v = .non ∨ ∃ p, v = .ref p ∧ H' p = some (.lst [.int 1]))
    refine ⟨fun σ H1 => ∃ v, σ = [some (.ref a), some v, none, none, none, none, none, none, none, none, none, none, none, none] ∧ Same H H1 ∧ V7 H1 v, ?_, ?_⟩
    · refine ⟨a, _, ns, rfl, hS, by omega, ?_⟩
      walk_at "w3"
      split
      · refine ⟨by omega, fun p np => ?_⟩
        have s1 := same_new (o := .lst [.int 1]) np
        refine ⟨by omega, a, _, ns, rfl, s1.seq hS, by omega, ?_⟩
        walk_at "w3"
        refine menu_pick (V7 (upd H p (.lst [.int 1]))) ?_ fun v g => ⟨v, rfl, s1, g⟩
        have cs : cell ns 0 / 216 % 7 = 0 ∨ cell ns 0 / 216 % 7 = 1 ∨ cell ns 0 / 216 % 7 = 2 ∨ cell ns 0 / 216 % 7 = 3 ∨ cell ns 0 / 216 % 7 = 4 ∨ cell ns 0 / 216 % 7 = 5 ∨ cell ns 0 / 216 % 7 = 6 := by omega
        rcases cs with e | e | e | e | e | e | e <;> rw [e] <;> refine ⟨_, rfl, ?_⟩
        · exact ⟨.inr odd_bl, .inr (.inl ⟨_, rfl⟩)⟩
        · exact ⟨.inr odd_bl, .inr (.inl ⟨_, rfl⟩)⟩
        · exact ⟨.inr odd_str, .inr (.inr (.inl rfl))⟩
        · exact ⟨.inr odd_non, .inr (.inr (.inr (.inl rfl)))⟩
        · exact ⟨.inr (odd_lst upd_same), .inr (.inr (.inr (.inr ⟨p, rfl, upd_same⟩)))⟩
        · exact ⟨.inl ⟨_, rfl⟩, .inl ⟨_, rfl⟩⟩
        · exact ⟨.inl ⟨_, rfl⟩, .inl ⟨_, rfl⟩⟩
      · exact ⟨_, rfl, Same.refl _, .inl ⟨_, rfl⟩, .inl ⟨_, rfl⟩⟩
    rintro σ H1 ⟨v, rfl, s1, t1, g1⟩
    walk_at "w3"
    refine ⟨v, rfl, t1, ?_⟩
    cases eV : handsV v with
    | none =>
      intro H2 s2
      have sA := s1.trans s2
      walk_at "w3"
      refine ⟨fun _ _ => False, ?_, fun _ _ h => h.elim⟩
      by_cases c1 : v = .bl true
      · rw [if_pos c1]
        exact q _
      · rw [if_neg c1]
        refine ⟨by omega, fun p np => ?_⟩
        have fin : ∀ H3 : Hp, ∃ k, V.bl true = V.bl k ∧ if k = true then Q (.bl true) H3 else False := fun H3 => ⟨_, rfl, by rw [if_pos rfl]; exact q _⟩
        rcases g1 with ⟨m, rfl⟩ | ⟨b, rfl⟩ | rfl | rfl | ⟨p1, rfl, hp1⟩
        · refine .inl ⟨p, _, rfl, .inr (.inl (.inl upd_same)), rfl, rfl, ?_⟩
          have hm : ¬ (1 ≤ m ∧ m ≤ 6) := fun z => by rw [handsV_int, if_pos z] at eV; cases eV
          rw [if_pos rfl, show [V.int 1, .int 2, .int 3, .int 4, .int 5, .int 6] = ([1, 2, 3, 4, 5, 6] : List Int).map V.int from rfl, in_ints, decide_eq_false (by simp only [List.mem_cons, List.not_mem_nil, or_false]; omega)]
          exact fin _
        · cases b with
          | true => exact absurd rfl c1
          | false => exact .inl ⟨p, _, rfl, .inr (.inl (.inl upd_same)), rfl, rfl, fin _⟩
        · exact .inl ⟨p, _, rfl, .inr (.inl (.inl upd_same)), rfl, rfl, fin _⟩
        · exact .inl ⟨p, _, rfl, .inr (.inl (.inl upd_same)), rfl, rfl, fin _⟩
        · refine .inr ⟨.list [.int 1], [.int 1, .int 2, .int 3, .int 4, .int 5, .int 6], .lst (.of ((same_new np) _ _ (s2 _ _ hp1))) (.cons (.int _) .nil), .tup (.inl (.inl upd_same)) (.cons (.int _) (.cons (.int _) (.cons (.int _) (.cons (.int _) (.cons (.int _) (.cons (.int _) .nil)))))), by decide +kernel, by decide +kernel, ?_⟩
          rw [if_pos rfl]
          exact fin _
    | some n =>
      obtain ⟨rfl, n1, n6⟩ := handsV_some eV
      intro hd hx hl H2 nhd nhl M2 s2
      have sA := s1.trans s2
      walk_at "w3"
      refine ⟨fun σ H' => σ = [some (.ref a), some (.int (n : Int)), some (.ref hd), none, none, none, none, none, none, none, none, none, none, none] ∧ Same H2 H', ?_, ?_⟩
      · rw [if_neg (by intro z; cases z)]
        refine ⟨by omega, fun p np => .inl ⟨p, _, rfl, .inr (.inl (.inl upd_same)), rfl, rfl, ?_⟩⟩
        rw [if_pos rfl, show [V.int 1, .int 2, .int 3, .int 4, .int 5, .int 6] = ([1, 2, 3, 4, 5, 6] : List Int).map V.int from rfl, in_ints, decide_eq_true (by simp only [List.mem_cons, List.not_mem_nil, or_false]; omega)]
        exact ⟨_, rfl, by rw [if_neg (by decide)]; exact ⟨rfl, same_new np⟩⟩
      rintro σ H3 ⟨rfl, s3⟩
      walk_at "w3"
      refine ⟨fun σ H' => σ = [some (.ref a), some (.int (n : Int)), some (.ref hd), none, none, none, none, none, none, none, none, none, none, none] ∧ Same H3 H', ?_, ?_⟩
      · refine r_isiIns (M2.same s3).ob (T.cls 66) (T.cln (by decide +kernel)) ?_
        exact ⟨_, rfl, by rw [if_neg (by decide)]; exact ⟨rfl, Same.refl _⟩⟩
      rintro σ H4 ⟨rfl, s4⟩
      walk_at "w3"
      refine ⟨by omega, fun p0 np0 => ?_⟩
      have t0 := same_new (o := .lst [.int (-1)]) np0
      refine ⟨_, upd_same, by omega, by omega, by rw [Int.toNat_natCast]; show 1 * n ≤ sizeLine; omega, fun k nk => ?_⟩
      rw [Int.toNat_natCast, rep_flat]
      have tk := same_new (o := .lst ((List.replicate n (-1 : Int)).map V.int)) nk
      have hk : upd (upd H4 p0 (.lst [.int (-1)])) k (.lst ((List.replicate n (-1 : Int)).map V.int)) k = some (.lst ((List.replicate n (-1 : Int)).map V.int)) := upd_same
      have s5 := s4.trans (t0.trans tk)
      have s25 := s3.trans s5
      have sk0 : Same H2 (upd H4 p0 (.lst [.int (-1)])) := s3.trans (s4.trans t0)
      generalize upd (upd H4 p0 (.lst [.int (-1)])) k (.lst ((List.replicate n (-1 : Int)).map V.int)) = H5 at hk s5 s25 ⊢
      intro r rx nr nrx nre
      refine ⟨r, rx, _, rfl, upd_same, .inl ⟨_, rfl⟩, ?_⟩
      rw [eV]
      intro A S H6 eA eS R6 zz k6
      subst eA
      have s6 := same_init nr nrx nre k6
      have ehs : S.hs = List.replicate n (-1) := by rw [eS]
      have R6' : RtO K H6 A.r A.rx A.h A.hx A.hl (.ref A.b) (.ref A.w) (.ref A.la) (List.replicate n (-1)) := ⟨R6.ob, by rw [← ehs]; exact R6.ho⟩
      have znl := none_of (same_mk (C := He.ga K "Roots") nr nrx nre) (zz A.hl (.inr (.inl rfl)))
      walk_at "w3"
      refine ⟨by omega, fun p1 np1 => ?_⟩
      have u1 := same_new (o := .lst [.int (-1)]) np1
      refine ⟨_, upd_same, by omega, by omega, by rw [Int.toNat_natCast]; show 1 * n ≤ sizeLine; omega, fun k2 nk2 => ?_⟩
      rw [Int.toNat_natCast, rep_flat]
      have u2 := same_new (o := .lst ((List.replicate n (-1 : Int)).map V.int)) nk2
      refine ⟨by omega, fun t nt => ⟨by omega, fun e ne => ?_⟩⟩
      have u3 := same_new (o := .lst []) nt
      have u4 := same_new (o := .lst []) ne
      have s56 := s25.trans s6
      have sB : Same H _ := sA.trans (s56.trans (u1.trans (u2.trans (u3.trans u4))))
      have h2' := s56.trans u1
      have xk := (s6.trans (u1.trans (u2.trans (u3.trans u4)))) _ _ hk
      have x1 := (M2.same (s56.trans (u1.trans (u2.trans (u3.trans u4)))))
      have x3 := R6'.same (u1.trans (u2.trans (u3.trans u4)))
      have x4 := (u3.trans u4) _ _ (upd_same (H := upd H6 p1 (.lst [.int (-1)])) (a := k2) (o := .lst ((List.replicate n (-1 : Int)).map V.int)))
      have x5 := u4 _ _ (upd_same (H := upd (upd H6 p1 (.lst [.int (-1)])) k2 (.lst ((List.replicate n (-1 : Int)).map V.int))) (a := t) (o := .lst []))
      have d1 : hl ≠ k := ne_of_none (sk0 _ _ M2.ls) nk
      have d2 : hl ≠ A.hl := ne_of_none (s25 _ _ M2.ls) znl
      have d3 : hl ≠ k2 := ne_of_none (h2' _ _ M2.ls) nk2
      have d4 : hl ≠ t := ne_of_none ((h2'.trans u2) _ _ M2.ls) nt
      have d5 : hl ≠ e := ne_of_none ((h2'.trans (u2.trans u3)) _ _ M2.ls) ne
      have d6 : k ≠ A.hl := ne_of_none hk znl
      have d7 : k ≠ k2 := ne_of_none ((s6.trans u1) _ _ hk) nk2
      have d8 : k ≠ t := ne_of_none ((s6.trans (u1.trans u2)) _ _ hk) nt
      have d9 : k ≠ e := ne_of_none ((s6.trans (u1.trans (u2.trans u3))) _ _ hk) ne
      have d10 : A.hl ≠ k2 := ne_of_none (u1 _ _ R6'.ho.ls) nk2
      have d11 : A.hl ≠ t := ne_of_none ((u1.trans u2) _ _ R6'.ho.ls) nt
      have d12 : A.hl ≠ e := ne_of_none ((u1.trans (u2.trans u3)) _ _ R6'.ho.ls) ne
      have d13 : k2 ≠ t := ne_of_none upd_same nt
      have d14 : k2 ≠ e := ne_of_none (u3 _ _ upd_same) ne
      have d15 : t ≠ e := ne_of_none upd_same ne
      have z1 : H hl = none := none_of s1 nhl
      have z2 : H k = none := none_of (sA.trans sk0) nk
      have z3 : H A.hl = none := none_of (sA.trans s25) znl
      have z4 : H k2 = none := none_of (sA.trans h2') nk2
      have z5 : H t = none := none_of (sA.trans (h2'.trans u2)) nt
      have z6 : H e = none := none_of (sA.trans (h2'.trans (u2.trans u3))) ne
      have x6 := upd_same (H := upd (upd (upd H6 p1 (.lst [.int (-1)])) k2 (.lst ((List.replicate n (-1 : Int)).map V.int))) t (.lst [])) (a := e) (o := .lst [])
      generalize upd (upd (upd (upd H6 p1 _) k2 _) t _) e _ = H7 at *
      let S0 : List (Option V) → L2.St := fun tl => [some (.ref a), some (.int (n : Int)), some (.ref hd), some (.ref k), some (.ref A.r), some (.ref k2), some (.ref t), some (.ref e)] ++ tl
      have rn : (List.replicate n (-1 : Int)).length = n := List.length_replicate
      refine ⟨fun σ H' => σ = S0 [none, none, none, none, none, none] ∧ ∃ f d tp, H7 f = none ∧ H7 d = none ∧ f ≠ d ∧ (∀ b o, b ≠ t → H7 b = some o → H' b = some o) ∧ H' t = some (.lst [.ref tp]) ∧ H' tp = some (.tup [.ref f, .ref d]) ∧ H' f = some (.lst ((placesW (List.replicate n (-1))).map V.int)) ∧ H' d = some (.lst ((placesW (List.replicate n (-1))).map V.int)), ?_, ?_⟩
      · refine ⟨hd, hx, hl, _, k, rfl, x1, xk, fun H8 s8 => ?_⟩
        walk_at "w3"
        refine ⟨A.r, A.rx, A.h, A.hx, A.hl, _, _, _, _, k2, t, [], rfl, x3.same s8, s8 _ _ x4, s8 _ _ x5, by decide, fun f d tp H9 nf nd ntp fd k9 e1 e2 e3 e4 => ?_⟩
        walk_at "w3"
        exact ⟨rfl, f, d, tp, none_of s8 nf, none_of s8 nd, fd, fun b o h g => k9 _ _ h (s8 _ _ g), e1, e2, e3, e4⟩
      rintro σ H8 ⟨rfl, f0, d0, tp0, nf0, nd0, fd0, k8, et, e1, e2, e3⟩
      simp only [S0, List.cons_append, List.nil_append]
      walk_at "w3"
      have sC : Same H H8 := fun b o g => k8 _ _ (ne_of_none g z5) (sB _ _ g)
      refine ⟨a, _, rfl, sC.seq hS, fun q1 nq1 => ?_⟩
      obtain ⟨cs, ec⟩ := cut_ints ns (some 1) (some 15)
      have cl := cut_len (xs := ns.map V.int) (a := 1) (b := 15) (by decide) (by decide)
      rw [ec] at cl ⊢
      rw [List.length_map] at cl
      have s9 := same_new (o := .lst (cs.map V.int)) nq1
      walk_at "w3"
      let R : R7 := ⟨hd, hx, hl, A.r, A.rx, A.h, A.hx, A.hl, k, k2, t, e, q1, .ref A.b, .ref A.w, .ref A.la, cs, n⟩
      have y1 : HandO K H8 hd hx hl (List.replicate n (-1)) := ⟨k8 _ _ (ne_of x1.ob x5 (by intro z; cases z)) x1.ob, k8 _ _ d4 x1.ls, x1.vw, x1.sz⟩
      have y3 : RtO K H8 A.r A.rx A.h A.hx A.hl (.ref A.b) (.ref A.w) (.ref A.la) (List.replicate n (-1)) := ⟨k8 _ _ (ne_of x3.ob x5 (by intro z; cases z)) x3.ob, ⟨k8 _ _ (ne_of x3.ho.ob x5 (by intro z; cases z)) x3.ho.ob, k8 _ _ d11 x3.ho.ls, x3.ho.vw, x3.ho.sz⟩⟩
      have yk := k8 _ _ d8 xk
      have yk2 := k8 _ _ d13 x4
      have ye := k8 _ _ d15.symm x6
      have mq : q1 ∉ R.M := fun m => by
        simp only [R7.M, R, List.mem_cons, List.not_mem_nil, or_false] at m
        rcases m with e | e | e | e | e | e
        · exact ne_of_none y1.ls nq1 e.symm
        · exact ne_of_none yk nq1 e.symm
        · exact ne_of_none y3.ho.ls nq1 e.symm
        · exact ne_of_none yk2 nq1 e.symm
        · exact ne_of_none et nq1 e.symm
        · exact ne_of_none ye nq1 e.symm
      have fM : ∀ {c}, H7 c = none → c ∉ R.M := fun {c} g m => by
        simp only [R7.M, R, List.mem_cons, List.not_mem_nil, or_false] at m
        rcases m with e | e | e | e | e | e
        · rw [e, x1.ls] at g; cases g
        · rw [e, xk] at g; cases g
        · rw [e, x3.ho.ls] at g; cases g
        · rw [e, x4] at g; cases g
        · rw [e, x5] at g; cases g
        · rw [e, x6] at g; cases g
      have I0 : I7 K H R (upd H8 q1 (.lst (cs.map V.int))) (List.replicate n (-1)) (List.replicate n (-1)) (List.replicate n (-1)) [.ref tp0] [⟨tp0, f0, d0, placesW (List.replicate n (-1))⟩] [] 0 1 :=
        { ho := y1.same s9, hk := s9 _ _ yk, ro := y3.same s9, hr := s9 _ _ yk2, ht := s9 _ _ et, he := s9 _ _ ye, ct := upd_same, cq := mq, sm := sC.trans s9, l1 := rn, l2 := rn, l3 := rn, l4 := Nat.le_refl _, l5 := Nat.le_refl _, n6 := ⟨n1, n6⟩
          tt := ⟨rfl, fun x m => (by rw [List.mem_singleton.mp m]; exact ⟨s9 _ _ e1, s9 _ _ e2, s9 _ _ e3, placesW6 (by rw [rn]; exact n6)⟩), by simp, fun x mx y my => (by rw [List.mem_singleton.mp mx, List.mem_singleton.mp my]; exact fd0)⟩
          lo := fun x m => (by rw [List.mem_singleton.mp m]; exact ⟨fM nf0, fM nd0⟩)
          hh := fun v m => (List.not_mem_nil m).elim
          z0 := fun c m => (by
            simp only [R7.M, R, List.mem_cons, List.not_mem_nil, or_false] at m
            rcases m with rfl | rfl | rfl | rfl | rfl | rfl <;> assumption)
          nd := (by simp only [R7.M, R, List.nodup_cons, List.mem_cons, List.not_mem_nil, or_false, not_or, List.nodup_nil, and_true, not_false_eq_true]; exact ⟨⟨d1, d2, d3, d4, d5⟩, ⟨d6, d7, d8, d9⟩, ⟨d10, d11, d12⟩, ⟨d13, d14⟩, d15⟩) }
      refine ⟨⟨_, .of upd_same⟩, forW_list (xs := cs.map V.int) (fun i σ H' => ∃ o8 o9 o10 o11 o12 o13 ws w2 ts L hs, σ = S0 [o8, o9, o10, o11, o12, o13] ∧ I7 K H R H' ws ws w2 ts L hs i (i + 1)) ⟨_, _, _, _, _, _, _, _, _, _, _, rfl, I0⟩ ?_ ?_ ?_⟩
      · rintro i σ H' hi ⟨o8, o9, o10, o11, o12, o13, ws, w2, ts, L, hs, rfl, I⟩
        exact .of I.ct
      · rintro i x σ H' hx' ⟨o8, o9, o10, o11, o12, o13, ws, w2, ts, L, hs, rfl, I⟩
        have i14 : i < 14 := by
          have := (List.getElem?_eq_some_iff.mp hx').1
          rw [List.length_map] at this
          omega
        obtain ⟨c, rfl, -⟩ := ints_mem hx'
        simp only [S0, List.cons_append, List.nil_append]
        walk_at "w3"
        refine ⟨fun σ H1 => ∃ v, σ = S0 [some (.int c), some v, o10, o11, o12, o13] ∧ Same H' H1 ∧ Thing H1 v ∧ ((c % 9 = 8 ∧ placeOf n v = none) ∨ (c % 9 ≠ 8 ∧ v = .int (c % 9 - 1))), ?_, ?_⟩
        · split
          · rename_i c8
            refine ⟨by omega, fun p np => ⟨by omega, menu_pick (fun v => Thing (upd H' p (.lst [.int 0])) v ∧ placeOf n v = none) ?_ fun v g => ⟨v, rfl, same_new np, g.1, .inl ⟨c8, g.2⟩⟩⟩⟩
            have cs : c / 9 % 6 = 0 ∨ c / 9 % 6 = 1 ∨ c / 9 % 6 = 2 ∨ c / 9 % 6 = 3 ∨ c / 9 % 6 = 4 ∨ c / 9 % 6 = 5 := by omega
            rcases cs with e | e | e | e | e | e <;> rw [e] <;> refine ⟨_, rfl, ?_⟩
            · exact ⟨.inr odd_bl, rfl⟩
            · exact ⟨.inr odd_bl, rfl⟩
            · exact ⟨.inr odd_non, rfl⟩
            · exact ⟨.inr odd_str, rfl⟩
            · exact ⟨.inl ⟨_, rfl⟩, by rw [placeOf_int, if_neg (by omega)]⟩
            · exact ⟨.inr (odd_lst upd_same), rfl⟩
          · exact ⟨_, rfl, Same.refl _, .inl ⟨_, rfl⟩, .inr ⟨by assumption, rfl⟩⟩
        rintro σ H1 ⟨v, rfl, s1', tv, cv⟩
        have I1 := I.same s1'
        simp only [S0, List.cons_append, List.nil_append]
        walk_at "w3"
        refine ⟨fun σ H2 => H2 = H1 ∧ σ = S0 [some (.int c), some v, some (.bl (placeOf n v).isSome), o11, o12, o13], ?_, ?_⟩
        · rcases cv with ⟨c8, ep⟩ | ⟨c8, rfl⟩
          · rw [if_neg (fun z => z c8), ep]
            first | exact ⟨rfl, rfl⟩ | exact rfl
          · rw [if_pos c8]
            walk_at "w3"
            rw [placeOf_int]
            split
            · by_cases c2 : c % 9 - 1 < (n : Int)
              · rw [decide_eq_true c2, if_pos ⟨by assumption, c2⟩]
                first | exact ⟨rfl, rfl⟩ | exact rfl
              · rw [decide_eq_false c2, if_neg (fun z => c2 z.2)]
                first | exact ⟨rfl, rfl⟩ | exact rfl
            · rw [if_neg (fun z => absurd z.1 (by assumption))]
              first | exact ⟨rfl, rfl⟩ | exact rfl
        rintro σ H2 ⟨rfl, rfl⟩
        generalize eb : (placeOf n v).isSome = b
        simp only [S0, List.cons_append, List.nil_append]
        walk_at "w3"
        refine ⟨recv I1.ho.ob, hd, hx, hl, _, rfl, I1.ho, fun p11 np11 => ?_⟩
        walk_at "w3"
        have t1' := same_new (o := .lst (ws.map V.int)) np11
        refine ⟨fun σ H3 => ∃ d, σ = S0 [some (.int c), some v, some (.bl b), some (.ref p11), some d, o13] ∧ H3 = upd H2 p11 (.lst (ws.map V.int)) ∧ ((placeOf n v = none ∧ d = .str "hand") ∨ (∃ ii, placeOf n v = some ii ∧ c / 9 % 8 ≠ 7 ∧ d = .non) ∨ (∃ ii, placeOf n v = some ii ∧ c / 9 % 8 = 7 ∧ d = .str "word")), ?_, ?_⟩
        · cases ep : placeOf n v with
          | none =>
            rw [ep] at eb
            rw [← eb, if_neg (by decide)]
            exact ⟨_, rfl, rfl, .inl ⟨rfl, rfl⟩⟩
          | some ii =>
            rw [ep] at eb
            rw [← eb, if_pos (show (some ii).isSome = true from rfl)]
            refine ⟨_, rfl, ?_⟩
            by_cases c7 : c / 9 % 8 = 7
            · rw [decide_eq_true c7]
              exact ⟨_, rfl, by rw [if_neg (by decide)]; exact ⟨_, rfl, rfl, .inr (.inr ⟨ii, rfl, c7, rfl⟩)⟩⟩
            · rw [decide_eq_false c7]
              exact ⟨_, rfl, by rw [if_pos (by decide)]; exact ⟨_, rfl, rfl, .inr (.inl ⟨ii, rfl, c7, rfl⟩)⟩⟩
        rintro σ H3 ⟨d, rfl, rfl, cd⟩
        simp only [S0, List.cons_append, List.nil_append]
        walk_at "w3"
        have I3 := I1.same t1'
        refine ⟨.inl ⟨rfl, _, .of I3.he⟩, k, _, rfl, .inl (.of I3.hk), fun p12 np12 => ⟨by omega, fun tp ntp => ?_⟩⟩
        have t2' := same_new (o := .lst (ws.map V.int)) np12
        have t3' := same_new (o := .tup [.ref p11, .ref p12]) ntp
        have l5 := I.l5
        have l4 := I.l4
        refine ⟨e, hs, _, rfl, rfl, (t2'.trans t3') _ _ I3.he, by omega, ?_⟩
        have e11 : p11 ≠ e := (ne_of_none I1.he np11).symm
        have e12 : p12 ≠ e := (ne_of_none I3.he np12).symm
        have e13 : tp ≠ e := (ne_of_none (t2' _ _ I3.he) ntp).symm
        have J := I1.held (x := p11) (y := p12) (tp := tp) (P := ws) (H' := upd (upd (upd (upd H2 p11 (.lst (ws.map V.int))) p12 (.lst (ws.map V.int))) tp (.tup [.ref p11, .ref p12])) e (.lst (hs ++ [.ref tp]))) (fun b o h g => by rw [upd_ne h]; exact (t1'.trans (t2'.trans t3')) _ _ g) np11 (none_of t1' np12) upd_same (by rw [upd_ne e13, upd_same]) (by rw [upd_ne e11]; exact (t2'.trans t3') _ _ upd_same) (by rw [upd_ne e12]; exact t3' _ _ upd_same) (by rw [I1.l2]; exact n6)
        have tv4 : Thing (upd (upd (upd (upd H2 p11 (.lst (ws.map V.int))) p12 (.lst (ws.map V.int))) tp (.tup [.ref p11, .ref p12])) e (.lst (hs ++ [.ref tp]))) v := thing_upd ((t1'.trans (t2'.trans t3')) _ _ I1.he) rfl (thing_same (t1'.trans (t2'.trans t3')) tv)
        generalize upd (upd (upd (upd H2 p11 (.lst (ws.map V.int))) p12 (.lst (ws.map V.int))) tp (.tup [.ref p11, .ref p12])) e (.lst (hs ++ [.ref tp])) = H4 at J tv4 ⊢
        walk_at "w3"
        refine ⟨fun σ H5 => ∃ wh', σ = S0 [some (.int c), some v, some (.bl b), some (.ref p11), some d, o13] ∧ I7 K H R H5 wh' ws w2 ts L (hs ++ [.ref tp]) (i + 1) (i + 1) ∧ Thing H5 v ∧ ((∃ ii, placeOf n v = some ii ∧ c / 9 % 8 ≠ 7 ∧ d = .non ∧ wh' = ws.set ii (wordC (c / 9))) ∨ ((∃ z, d = .str z) ∧ wh' = ws)), ?_, ?_⟩
        · refine ⟨c / 9, rfl, fun h7 H5 s5 => ?_, fun h7 z H5 s5 tz hz => ?_⟩
          · have J5 := J.same s5
            refine ⟨hd, hx, hl, ws, v, _, rfl, J5.ho, thing_same s5 tv4, .inl ⟨_, rfl⟩, ?_⟩
            rw [show ws.length = n from J.l1]
            rcases cd with ⟨ep, rfl⟩ | ⟨ii, ep, -, rfl⟩ | ⟨ii, ep, c7, -⟩
            · rw [ep]
              intro H6 s6
              walk_at "w3"
              exact ⟨ws, rfl, J5.same s6, thing_same (s5.trans s6) tv4, .inr ⟨⟨_, rfl⟩, rfl⟩⟩
            · rw [ep]
              dsimp only
              rw [wordV_int, if_pos wordC_ok]
              dsimp only
              walk_at "w3"
              obtain ⟨⟨n1, n2, n3, n4, n5⟩, -⟩ := J5.ne
              refine ⟨_, rfl, J5.step (fun b o h g => by rw [upd_ne (I7.m h).1]; exact g) upd_same (by rw [show hl = R.hl from rfl, upd_ne n1.symm]; exact J5.hk) (by rw [show hl = R.hl from rfl, upd_ne n2.symm]; exact J5.ro.ho.ls) (by rw [show hl = R.hl from rfl, upd_ne n3.symm]; exact J5.hr) (by rw [show hl = R.hl from rfl, upd_ne n4.symm]; exact J5.ht) (by rw [show hl = R.hl from rfl, upd_ne n5.symm]; exact J5.he) (J5.ho.vw.set wordC_ok) J5.ro.ho.vw (by rw [List.length_set]; exact J.l1) J.l2 J.l3, thing_upd J5.ho.ls rfl (thing_same s5 tv4), by first | exact .inl ⟨ii, rfl, h7, rfl, rfl⟩ | exact .inl ⟨ii, rfl, h7, rfl⟩⟩
            · exact absurd c7 h7
          · have J5 := J.same s5
            refine ⟨hd, hx, hl, ws, v, _, rfl, J5.ho, thing_same s5 tv4, tz, ?_⟩
            rw [show ws.length = n from J.l1]
            rcases cd with ⟨ep, rfl⟩ | ⟨ii, ep, c7, -⟩ | ⟨ii, ep, -, rfl⟩
            · rw [ep]
              intro H6 s6
              walk_at "w3"
              exact ⟨ws, rfl, J5.same s6, thing_same (s5.trans s6) tv4, .inr ⟨⟨_, rfl⟩, rfl⟩⟩
            · exact absurd h7 c7
            · rw [ep]
              dsimp only
              rw [hz]
              intro H6 s6
              walk_at "w3"
              exact ⟨ws, rfl, J5.same s6, thing_same (s5.trans s6) tv4, .inr ⟨⟨_, rfl⟩, rfl⟩⟩
        rintro σ H5 ⟨wh', rfl, J5, tv5, cw⟩
        simp only [S0, List.cons_append, List.nil_append]
        walk_at "w3"
        refine ⟨fun σ H6 => ∃ ws' w2', σ = S0 [some (.int c), some v, some (.bl b), some (.ref p11), some d, o13] ∧ I7 K H R H6 ws' ws' w2' ts L (hs ++ [.ref tp]) (i + 1) (i + 1) ∧ Thing H6 v, ?_, ?_⟩
        · rcases cw with ⟨ii, ep, h7, rfl, rfl⟩ | ⟨⟨z, rfl⟩, rfl⟩
          · obtain ⟨rfl, iin⟩ := placeOf_some ep
            walk_at "w3"
            refine ⟨c / 9, rfl, fun _ H6 s6 => ?_, fun h => absurd h h7⟩
            have J6 := J5.same s6
            have wl : ws.length = n := J5.l2
            have w2l : w2.length = n := J5.l3
            obtain ⟨⟨n1, n2, n3, n4, n5⟩, ⟨n6', n7, n8, n9⟩, ⟨n10, n11, n12⟩, ⟨n13, n14⟩, n15⟩ := J6.ne
            walk_at "w3"
            refine r_setL J6.hk (by omega) (by rw [List.length_map]; omega) ?_
            rw [Int.toNat_natCast, ← List.map_set]
            have nk : ∀ {c C d fs}, H6 c = some (.ins C d fs) → c ≠ k := fun g => ne_of g J6.hk (by intro z; cases z)
            refine r_ixL (i := ii) upd_same (v := .int (wordC (c / 9))) (by rw [List.getElem?_map, List.getElem?_set_self (by omega)]; rfl) ?_
            walk_at "w3"
            refine ⟨A.r, A.rx, A.h, A.hx, A.hl, _, _, _, w2, k2, ii, _, _, rfl, ⟨by rw [upd_ne (nk J6.ro.ob)]; exact J6.ro.ob, ⟨by rw [upd_ne (nk J6.ro.ho.ob)]; exact J6.ro.ho.ob, by rw [upd_ne (show A.hl ≠ k from n6'.symm)]; exact J6.ro.ho.ls, J6.ro.ho.vw, J6.ro.ho.sz⟩⟩, by rw [upd_ne (show k2 ≠ k from n7.symm)]; exact J6.hr, n10.symm, by omega, wordC_ok, fun w2' H7 wl' R7' hr7 k7 => ?_⟩
            walk_at "w3"
            refine ⟨ws.set ii (wordC (c / 9)), w2', rfl, J6.step (fun b o h g => ?_) (k7 _ _ n2 n3 (by rw [upd_ne n1]; exact J6.ho.ls)) (k7 _ _ n6' n7 upd_same) R7'.ho.ls hr7 (k7 _ _ n11.symm n13.symm (by rw [upd_ne n8.symm]; exact J6.ht)) (k7 _ _ n12.symm n14.symm (by rw [upd_ne n9.symm]; exact J6.he)) J6.ho.vw R7'.ho.vw J5.l1 J5.l1 (wl'.trans J5.l3), .inl ⟨_, rfl⟩⟩
            obtain ⟨-, m2, m3, m4, -⟩ := I7.m h
            exact k7 _ _ m3 m4 (by rw [upd_ne m2]; exact g)
          · walk_at "w3"
            exact ⟨_, w2, rfl, J5, tv5⟩
        rintro σ H6 ⟨ws', w2', rfl, J6, tv6⟩
        simp only [S0, List.cons_append, List.nil_append]
        walk_at "w3"
        refine ⟨fun σ H7 => ∃ ts' L', σ = S0 [some (.int c), some v, some (.bl b), some (.ref p11), some d, o13] ∧ I7 K H R H7 ws' ws' w2' ts' L' (hs ++ [.ref tp]) (i + 1) (i + 1 + 1) ∧ Thing H7 v, ?_, ?_⟩
        · refine ⟨A.r, A.rx, A.h, A.hx, A.hl, _, _, _, w2', k2, t, ts, rfl, J6.ro, J6.hr, J6.ht, by omega, fun f d tp' H7 nf nd ntp fd k7 e1 e2 e3 e4 => ?_⟩
          have J7 := J6.told (f := f) (d := d) (tp := tp') (P := placesW w2') k7 nf nd fd e1 e2 e3 e4 (placesW6 J6.ro.ho.sz)
          have tv7 : Thing H7 v := thing_off J6.ht e1 k7 tv6
          walk_at "w3"
          exact ⟨_, _, rfl, J7, tv7⟩
        rintro σ H7 ⟨ts', L', rfl, J7, tv7⟩
        simp only [S0, List.cons_append, List.nil_append]
        walk_at "w3"
        have fin : ∀ {H8 : Hp} {o11 o12 : Option V}, I7 K H R H8 ws' ws' w2' ts' L' (hs ++ [.ref tp]) (i + 1) (i + 1 + 1) → sp_right K [.ref hd, .ref k] H8 (fun x H1 => ∃ k_1, x = V.bl k_1 ∧ if k_1 = false then Q (.bl false) H1 else ∃ o8 o9 o10 o11 o12 o13' ws w2 ts L hs, [some (.ref a), some (.int (n : Int)), some (.ref hd), some (.ref k), some (.ref A.r), some (.ref k2), some (.ref t), some (.ref e), some (.int c), some v, some (.bl b), some (.ref p11), some d, o13] = S0 [o8, o9, o10, o11, o12, o13'] ∧ I7 K H R H1 ws ws w2 ts L hs (i + 1) (i + 1 + 1)) (fun c d H2 => E c d H2) := fun {H8 _ _} J8 => by
          refine ⟨hd, hx, hl, ws', k, rfl, J8.ho, J8.hk, fun H9 s9 => ⟨_, rfl, ?_⟩⟩
          rw [if_neg (by decide)]
          exact ⟨_, _, _, _, _, _, _, _, _, _, _, rfl, J8.same s9⟩
        cases b with
        | true =>
          walk_at "w3"
          exact fin (o11 := none) (o12 := none) J7
        | false =>
          walk_at "w3"
          have ep : placeOf n v = none := by
            cases e : placeOf n v with
            | none => rfl
            | some ii => rw [e] at eb; cases eb
          refine ⟨hd, hx, hl, ws', v, rfl, J7.ho, tv7, ?_⟩
          rw [show ws'.length = n from J7.l1, ep]
          intro H8 s8
          walk_at "w3"
          exact fin (o11 := none) (o12 := none) (J7.same s8)
      · rintro σ H' ⟨o8, o9, o10, o11, o12, o13, ws, w2, ts, L, hs, rfl, I⟩
        simp only [S0, List.cons_append, List.nil_append]
        walk_at "w3"
        have l5 := I.l5
        have l4 := I.l4
        have il : cs.length ≤ 14 := by omega
        have cm : (cs.map V.int).length = cs.length := List.length_map ..
        refine ⟨A.r, A.rx, A.h, A.hx, A.hl, _, _, _, w2, k2, t, ts, L, rfl, I.ro, I.hr, I.ht, by omega, I.tt, fun x m => ?_, fun H8 k8 => ?_⟩
        · obtain ⟨-, -, m3, m4, m5, -⟩ := I7.m (I.lo x m).1
          exact ⟨m3, m4, m5⟩
        walk_at "w3"
        have he8 : H8 e = some (.lst hs) := k8 _ _ (fun x m => (I7.m (I.lo x m).1).2.2.2.2.2.symm) I.he
        refine ⟨⟨_, .of he8⟩, fun D hD => lc_list (xs := hs) (fun i H => H = upd H8 D (.lst (List.replicate i (.bl true)))) rfl (fun i H _ e => ?_) (fun i x H hx e => ?_) fun H e => ?_⟩
        · subst e
          exact .of ((same_new hD) _ _ he8)
        · subst e
          have hi := (List.getElem?_eq_some_iff.mp hx).1
          obtain ⟨tp, x1, y1, P1, rfl, h1, h2, h3, h4, -, -, h5⟩ := I.hh x (List.mem_of_getElem? hx)
          have g1 := k8 _ _ (fun z m => ne_of h1 (I.tt.at_ z m).2.1 (by intro z; cases z)) h1
          have g2 := k8 _ _ (fun z m => (h5 z m).1.symm) h2
          have g3 := k8 _ _ (fun z m => (h5 z m).2.symm) h3
          have sD : Same H8 (upd H8 D (.lst (List.replicate i (.bl true)))) := same_new hD
          walk_at "w3"
          refine ⟨_, .inl (.inl (sD _ _ g1)), rfl, ?_⟩
          walk_at "w3"
          refine ⟨x1, y1, P1, rfl, sD _ _ g2, sD _ _ g3, by omega, _, upd_same, by rw [List.length_replicate]; omega, ?_⟩
          rw [upd_upd, ← List.replicate_succ, List.replicate_succ']
        · subst e
          exact r_allT upd_same (q _)
end

/-! ## the head and the end -/
abbrev RR : PySem.W.OpenRow := PySem.W.OpenLaw.row PySem.Challenge.rw_cellkeep_k07_hands
abbrev hk : PySem.W.Hook := hookG 6 fa fn exL
def ob (s : PySem.W.SharedT) : He.AlD × Bool := lookG 6 fa fn exL (HandSHeadRun.getT s)
theorem ob_eq (s : PySem.W.SharedT) : ob s = hk.obs s.abs := lookG_eq (HandSHeadRun.getT_eq s)
def loose : List Str := (["_wall", "KeepError", "BadNumber", "BadWord", "BadCount", "NoPlace", "NoRoom", "NoSlot", "NoCell", "NoHand", "NothingHeld", "NoName", "NoDeed", "NoImage", "NoProgram", "MOST_NUMBER", "MOST_PLACE", "NOTHING", "is_whole", "place_word", "kind", "worth", "MOST_HANDS", "Hands", "Book", "Lasts", "Weak", "Roots", "_law_draw", "_law_alone"] : List Str) ++ (["_law_made", "_law_put", "_law_get", "_law_word", "_law_is_word", "_law_same", "_law_right", "_law_starts_right", "_law_rooted", "_law_told_stays"] : List Str)
theorem run (w : World) : HandSHeadRun.RunEq RR (PySem.W.view RR.prog [48]) hk ob 16000 loose w := by
  intro os
  kernel_rfl
theorem facts {w : World} {K : PySem.W.Frag} {h : Heap} {mg : Str → Option Value} {f : Addr} (X : K.In h) (G : h.Ns mainGlobals mg) (hfa : mg ("law" : Str) = some (.ref f)) (c : He.SaysD fa fn K) (ce : exOk exL K = true) :
    ∃ fd : FuncData, (∀ (s : Shared) (v : Value), BindsTo s fd ⟨[v], []⟩ [("_law_script", v)]) ∧ ∀ base : Heap, K.In base → base.Ns mainGlobals mg → FnOk (PySem.Challenge.rw_cellkeep_k07_hands).prog w K mg base CX0 7 f fd ["_law_script"] (sp_law K) := by
  have T : Tx K mg := ⟨⟨h, X, G⟩, c, ce⟩
  have e := hfa.symm.trans (T.glo 36)
  cases e
  have F : ∀ base : Heap, Fn (PySem.Challenge.rw_cellkeep_k07_hands).prog w K mg base 7 "law" ["_law_script"] (sp_law K) := fun base => f_law T
  exact ⟨_, fun s v => (F h).bd s [v] rfl, fun base _ _ => quiet (F base).ok fun _ _ _ _ z => z⟩

end Pr
open PySem PySem.W PySem.Calls PyProof.Rows
theorem PySem.Challenge.cw_cellkeep_k07_hands_holds : PySem.Challenge.rw_cellkeep_k07_hands.Holds := by
  w_on; o_law
  refine HandSHeadRun.head_any (r := OpenLaw.row PySem.Challenge.rw_cellkeep_k07_hands) (q := view (OpenLaw.row PySem.Challenge.rw_cellkeep_k07_hands).prog [48]) (H := Pr.hk) (ob := Pr.ob) (M := 16000) (loose := Pr.loose) (d := HandSHeadRun.topDef (OpenLaw.row PySem.Challenge.rw_cellkeep_k07_hands).prog 48) (kwd := []) Pr.ob_eq
    (by kernel_rfl) (fun s => by kernel_rfl) Pr.run (by kernel_rfl) (by kernel_rfl) (by kernel_rfl) (by rfl) (by first | assumption | decide +kernel) (by decide +kernel) ⟨rfl, rfl, rfl, rfl, rfl, by decide +kernel⟩ ?hw ?hc
  case hw => w_witness2
  case hc =>
    refine L2.walk_ofE (l := PySem.Challenge.rw_cellkeep_k07_hands) (n := 63) (k := 7) (x := "_law_script") (CX := L2.CX0) rfl (by decide) (by kernel_rfl) ⟨rfl, by decide, by decide⟩ ?F (fun _ _ _ _ z => z)
    case F =>
      intro w mg fa h Y G hmg0
      obtain ⟨K, KX, c, ce⟩ := Y
      have hmg : mg ("law" : PySem.Str) = some (.ref fa) := by
        have e : (HandSHeadRun.topDef (OpenLaw.row PySem.Challenge.rw_cellkeep_k07_hands).prog 48).name = ("law" : PySem.Str) := by kernel_rfl
        rw [← e]
        exact hmg0
      obtain ⟨fd, hb, hF⟩ := Pr.facts (w := w) KX G hmg c ce
      exact ⟨K, fd, Pr.sp_law K, KX, hb, fun H a ns hl _ hS => ⟨a, ns, rfl, hS, hl, fun _ => rfl⟩, hF⟩
#print axioms PySem.Challenge.cw_cellkeep_k07_hands_holds

