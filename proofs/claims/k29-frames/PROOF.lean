import PyProof.Rows.All
import Wide.All
import OpenK.AllK
import Wide.FinOn
import KE.KStateDown
import HandS.Base
import HandS.Call
import HandS.List
import HandS.Comp
import HandS.Ends
import HandS.Dict
import HandS.Iter
import HandS.Walk
import HandS.Text
import HandS.Words
import HandS.WordsList
import HandS.WordsDict
import HandS.Exc
import HandS.TryOnly
import HandS.TryMany
import HandS.ExcOwn
import HandS.WordsExc
import HandS.IsInst
import HandS.ExcIs
import HandS.Flow
import HandS.More
import HandS.Wide
import HandS.SortInts
import HandS.Defaults
import HandS.Head0
import HandS.Head1
import HandS.Head2
import HandS.HeadEnd
import HandS.HeadHook1
import HandS.HeadHook2
import PySem.Challenge.RW_cellkeep_k29_frames
set_option Elab.async false
set_option linter.all false
set_option maxRecDepth 100000
set_option maxHeartbeats 4000000
namespace G
open PySem PySem.Spec PyProof.Rows L2

/-! ## a caught exception as a tracked thing -/
/-- an exception object of class cls stands at a -/
def ExA (cls : Value) (a : Addr) : HO := .ext fun h => ∃ (o : Obj) (fv : Array Value), h.get? a = some o ∧ Zc cls none o ∧ o.data = .fields fv
theorem exA_ok {P : Program} {w : World} {H : Hp} {h : Heap} {a : Addr} {cls : Value} {o : Obj} {fv : Array Value} (e : h.get? a = some o) (z : Zc cls none o) (d : o.data = .fields fv) : ObjOk P w H h a (ExA cls a) :=
  ⟨⟨o, fv, e, z, d⟩, ⟨o, e⟩, fun _ _ ⟨o', fv', e', z', d'⟩ k => ⟨o', fv', k _ e', z', d'⟩⟩

section
variable {X : Cx} {pins : List (Addr × Obj)} {σ : L2.St} {H : Hp} {s : Shared}
/-- an object that stands untracked is tracked from now on -/
theorem track {a : Addr} {u : HO} (I : Inv X pins σ H s) (na : H a = none) (n0 : X.s_0.heap.get? a = none) (nL : a ≠ X.env.locals) (nC : ∀ x c, X.env.cells.lookup x = some c → c ≠ a)
    (nP : ∀ p ∈ X.pn ++ pins, p.1 ≠ a) (new : ObjOk X.prog X.w (upd H a u) s.heap a u) : Inv X pins σ (upd H a u) s := by
  have ne0 : ∀ b o, X.s_0.heap.get? b = some o → b ≠ a := fun b o e z => by rw [z, n0] at e; cases e
  have neH : ∀ b o, H b = some o → b ≠ a := fun b o e z => by rw [z, na] at e; cases e
  refine ⟨I.ok, I.os, I.bare, ⟨I.base.keep, I.base.slot, ?_, I.base.there, ?_, ?_, ?_⟩, I.loc, I.cell, ?_, ?_, ?_, ?_, I.len⟩
  · intro b o e n hx
    rw [upd_ne (ne0 b o e)]
    exact I.base.free b o e n hx
  · intro b xs e
    have q := I.base.tups b xs e
    rw [upd_ne (neH b _ q)]
    exact q
  · intro b o u' e
    have q := I.base.frzs b o u' e
    rw [upd_ne (neH b _ q)]
    exact q
  · intro b ps e
    obtain ⟨m, q⟩ := I.base.tbls b ps e
    exact ⟨m, by rw [upd_ne (neH b _ q)]; exact q⟩
  · rw [upd_ne (Ne.symm nL)]
    exact I.free
  · intro x c e
    rw [upd_ne (nC x c e)]
    exact I.freeC x c e
  · intro p hp
    obtain ⟨e, n, ne, nf, d⟩ := I.pin p hp
    exact ⟨e, by rw [upd_ne (nP p hp)]; exact n, ne, nf, d⟩
  · intro b o e
    by_cases hb : b = a
    · subst hb
      rw [upd_same] at e
      cases e
      exact new
    · rw [upd_ne hb] at e
      refine (I.hok b o e).stay (fun _ _ _ z => z) (fun c z => ?_) fun c xs z => ?_
      · rw [upd_ne (neH c _ z)]
        exact z
      · rw [upd_ne (neH c _ z)]
        exact z
/-- a list that was laid since the def began is forgotten -/
theorem forget {a : Addr} {xs : List V} (I : Inv X pins σ (upd H a (.lst xs)) s) (na : H a = none) (n0 : X.H_0 a = none) : Inv X pins σ H s := by
  have back : ∀ b, b ≠ a → upd H a (.lst xs) b = H b := fun b hb => upd_ne hb
  have nn : ∀ b, upd H a (.lst xs) b = none → H b = none := fun b e => by
    by_cases hb : b = a
    · rw [hb, upd_same] at e
      cases e
    · rw [upd_ne hb] at e
      exact e
  refine ⟨I.ok, I.os, I.bare, ⟨I.base.keep, I.base.slot, fun b o e n hx => nn b (I.base.free b o e n hx), I.base.there, ?_, ?_, ?_⟩, I.loc, I.cell, nn _ I.free, fun x c e => nn _ (I.freeC x c e), fun p hp => ?_, ?_, I.len⟩
  · intro b ys e
    rw [← back b (fun z => by rw [z, n0] at e; cases e)]
    exact I.base.tups b ys e
  · intro b o u' e
    rw [← back b (fun z => by rw [z, n0] at e; cases e)]
    exact I.base.frzs b o u' e
  · intro b ps e
    rw [← back b (fun z => by rw [z, n0] at e; cases e)]
    exact I.base.tbls b ps e
  · obtain ⟨e, n, r⟩ := I.pin p hp
    exact ⟨e, nn _ n, r⟩
  · intro b o e
    have hb : b ≠ a := fun z => by rw [z, na] at e; cases e
    have q : upd H a (.lst xs) b = some o := by rw [upd_ne hb]; exact e
    refine (I.hok b o q).stay (fun _ _ _ z => z) (fun c z => ?_) fun c ys z => ?_
    · rw [← back c (fun y => by rw [y, upd_same] at z; cases z)]
      exact z
    · rw [← back c (fun y => by rw [y, upd_same] at z; cases z)]
      exact z
/-- what a fresh address of now was ahead of the def -/
theorem fresh0 {a : Addr} (I : Inv X pins σ H s) (na : H a = none) (nt : ∀ o, X.H_0 a = some o → ∃ ob, X.s_0.heap.get? a = some ob) (hs : s.heap.objs.size ≤ a) : X.H_0 a = none := by
  cases e : X.H_0 a with
  | none => rfl
  | some o =>
    obtain ⟨ob, q⟩ := nt o e
    exact absurd (Nat.lt_of_lt_of_le (Heap.lt_size q) (Nat.le_trans I.sz hs)) (Nat.lt_irrefl _)
end
end G
namespace G
open PySem PySem.Spec PyProof.Rows L2
/-! ## a display that is subscripted at once -/
section
variable {X : Cx} {pins : List (Addr × Obj)} {σ : L2.St} {H : Hp} {s : Shared}
theorem itemAt {value slice : Expr} {E : Value → Shared → Prop} {Q : Value → Shared → Prop} {p : Addr} {xs : List V} {its : List Value} {i : Int} {t : Tok} {z : V} (r : Vals xs its) (pl : PlainL s.heap p its.toArray) (hz : xs.length ≤ sizeLine) (he : atI xs i = some z)
    (fin : ∀ w, RelV z w → Q w s) (hs : subscripted slice false (.ref p) (.int i t) = operate [.ref p, .int i t] (getItem (.ref p) (.int i t))) :
    wpAny (model X.prog X.w) X.A (subscriptTail value slice (.ref p) (.int i t)) Q E s := by
  obtain ⟨j, g1, g2, g3, g4, g5⟩ := atI_get he
  obtain ⟨u, eu, ru⟩ := r.get g2
  have ln := r.length
  have big := line63
  by_cases c : 0 ≤ i
  · have ej : i.toNat = j := Option.some.inj ((seqIndex_of c g5).symm.trans g1)
    exact item_listR pl.isList c (by omega) (by subst ej; simpa using eu) (fin u ru) hs
  · have ej : (i + (its.toArray.size : Int)).toNat = j := by
      have z1 := (seqIndex_neg (by omega) g4).symm.trans g1
      simp only [List.size_toArray, ← ln]
      exact Option.some.inj z1
    refine subscriptTail_builtinR (x := u) pl.isList.typeIs slot_list_getitem.lookup ?_ hs
    refine wpAny_getItem_list_neg (Q := fun r s' => r = u ∧ Q r s') pl.isList (by omega) ?_ (by omega) (by subst ej; simpa using eu) ⟨rfl, fin u ru⟩
    simp only [List.size_toArray]
    omega
/-- [a, b, ..][i]: the list is never seen again -/
def tMenu (ta : TA) (ti : TE) : TE := fun σ H Q => ta σ H fun xs H1 => xs.length ≤ sizeLine ∧ ti σ H1 fun y H2 => ∃ i v, y = .int i ∧ atI xs i = some v ∧ Q v H2
theorem pe_menu {es : List Expr} {b : Expr} {ta : TA} {tb : TE} {p1 pos : Pos} (ha : PA X es ta) (hb : PE X b tb) (hs : PlainIx b) : PE X (.Subscript (.List es p1) b pos) (tMenu ta tb) := by
  refine ⟨fun pins s σ H Q I h => ?_⟩
  refine Subscript_ (wpAny_List_spliced (thn (ha.run p1 pins s σ H _ I h) fun us s1 ⟨xs, H1, I1, r, z, q⟩ => ⟨by rw [← r.length]; exact z, ?_⟩))
  have hf : H1 s1.heap.objs.size = none := I1.hok.fresh (Nat.le_refl _)
  have I2 : Inv X pins σ H1 { s1 with heap := s1.heap.push { cls := .type "list", data := .seq us.toArray } } := I1.kept (t' := s1.toks) fun _ _ e => Heap.get?_push_of_some _ e
  have eo : (s1.heap.push { cls := .type "list", data := .seq us.toArray }).get? s1.heap.objs.size = some { cls := .type "list", data := .seq us.toArray } := Heap.get?_push_size _ rfl
  have I3 := I2.pinned (fp := [s1.heap.objs.size]) (fun b hb => by
    have e : b = s1.heap.objs.size := by simpa using hb
    subst e
    exact I1.fpOk (Nat.le_refl _) hf) fun b hb => by
    have e : b = s1.heap.objs.size := by simpa using hb
    subst e
    exact ⟨_, eo, fun v z => by cases z⟩
  refine thn (hb.run _ _ σ H1 _ I3 q) fun u s2 ⟨y, H2, I4, ry, i, v, ey, hv, q2⟩ => ?_
  subst ey
  obtain ⟨t, rfl⟩ := ry
  have e2 : s2.heap.get? s1.heap.objs.size = some { cls := .type "list", data := .seq us.toArray } :=
    (I4.pin (s1.heap.objs.size, _) (List.mem_append_right _ (List.mem_append_right _ (mem_pinsAt (List.mem_cons_self) eo)))).1
  exact itemAt r ⟨_, _, e2, rfl, rfl, rfl⟩ z hv (fun w rw' => ⟨v, H2, I4.unpinned, rw', q2⟩) (hs _ _)
end
/-! ## defs that may be called while an exception is handled: they raise nothing -/
structure RoomN (k : Nat) (A : Around) : Prop where
  dp : A.depth + 3 * k + 5 < recursionLimit
  un : A.units + 16 * k + 200 < cLine
theorem roomN_of {k : Nat} {A : Around} (r : Room k A) : RoomN k A := ⟨r.dp, r.un⟩
theorem roomN_mark {k : Nat} {A : Around} {v : Option Value} (r : Room k A) : RoomN k (A.mark v) := ⟨r.dp, r.un⟩
theorem RoomN.mono {j k : Nat} {A : Around} (r : RoomN k A) (h : j ≤ k) : RoomN j A := ⟨by have := r.dp; omega, by have := r.un; omega⟩
theorem RoomN.deeper {k : Nat} {A : Around} (r : RoomN (k + 1) A) (env : Env) : RoomN k (A.deeper env) :=
  ⟨by have h := r.dp; show A.depth + 1 + (3 * k + 5) < _; omega, by have h := r.un; show A.units + 3 + (16 * k + 200) < _; omega⟩
abbrev cxN (P : Program) (w : World) (K : PySem.W.Frag) (mg : Str → Option Value) (base : Heap) (N : List Str) (qual : Str) (scope : Scope) (f : Addr) (cd : Value) (A : Around) (outer : List Env) (s : Shared) (H : Hp) : Cx :=
  { cxOf CX0 P w K mg base N qual scope f cd A outer s H E0 with calm := false }
structure FnN (P : Program) (w : World) (K : PySem.W.Frag) (mg : Str → Option Value) (base : Heap) (k : Nat) (f : Addr) (fd : FuncData) (ps : List Str) (sp : Sp) : Prop where
  len : ∀ vs H Q E, sp vs H Q E → vs.length = ps.length
  run : ∀ (A : Around) (outer : List Env) (s : Shared) (H : Hp) (args : Args) (us : List Value) (vs : List V) (Q : VK), RoomN k A → Env0 P w K mg base A outer s H → BindsTo s fd args (ps.zip us) → Vals vs us → sp vs H Q E0 →
    codeAny (model P w) A (.call (.ref f) args) (CR CX0 outer P w H s Q E0) s
theorem FnN.mono {P : Program} {w : World} {K : PySem.W.Frag} {mg : Str → Option Value} {base : Heap} {j k : Nat} {f : Addr} {fd : FuncData} {ps : List Str} {sp : Sp} (F : FnN P w K mg base j f fd ps sp) (h : j ≤ k) : FnN P w K mg base k f fd ps sp :=
  ⟨F.len, fun A outer s H args us vs Q hr => F.run A outer s H args us vs Q (hr.mono h)⟩
section
variable {P : Program} {w : World} {K : PySem.W.Frag} {mg : Str → Option Value} {base : Heap}
theorem fn_ofN {x qual : Str} {params : Arguments} {body : List Stmt} {scope : Scope} {dvs : List V} {kws : List (Str × V)} {f : Addr} {fd : FuncData} {N ps : List Str} {k : Nat} {sp : Sp} (F : FunD K x qual params body scope dvs kws f fd) (S : FnScope N ps scope)
    (len : ∀ vs H Q E, sp vs H Q E → vs.length = ps.length)
    (hbody : ∀ (cdv : Value) (A : Around) (outer : List Env) (s : Shared) (H : Hp) (vs : List V) (Q : VK), RoomN k (A.deeper (envOfC qual scope s.heap.objs.size f cdv)) → sp vs H Q E0 →
      ∃ t, PSs (cxN P w K mg base N qual scope f cdv A outer s H) body t ∧ t { nx := fun _ H' => Q .non H', rt := Q } (start N vs) H) : FnN P w K mg base (k + 1) f fd ps sp := by
  obtain ⟨oc, od, dV, kV, doc, pm, an, cdv, ct, osl, rfl, lk, hcd, -, -⟩ := F.ex
  refine ⟨len, fun A outer s H args us vs Q hr e0 hb r hsp => ?_⟩
  have hl := len _ _ _ _ hsp
  have st : ∀ b o, base.get? b = some o → s.heap.get? b = some o := fun b o e => (e0.bs b o e).1
  have KX : K.In s.heap := e0.mod.kin.keeps st
  refine codeAny_call_function (by have := hr.dp; omega) (KX _ _ lk) rfl S.co S.gen rfl (PySem.W.codeRec_of KX hcd) (hb _ _ _ _ ?_)
  refine wpAny_newFunctionEnv_cells S.kind (fun y hy => ?_) fun env he s1 x => ?_
  · rcases S.par y.1 (List.of_mem_zip hy).1 with q | q
    · exact .inl q
    · exact .inr ⟨q, PySem.W.cellsFrom_some _ _ _ (.inl q)⟩
  subst he
  refine ⟨(e0.mod.nolimit.keeps st).keeps x.toInCall.keep, codeAny_func ?_⟩
  obtain ⟨t, ht, hq⟩ := hbody cdv A outer s H vs Q (hr.deeper _) hsp
  have J : Inv (cxOf CX0 P w K mg base N qual scope f cdv { A with handled := none } outer s H E0) [] (start N vs) H s1 := inv_start S rfl ⟨e0.frames, e0.mod, e0.bs, e0.bsz, e0.funs, e0.frf, e0.hok, e0.bare⟩ hl r x
  have I : Inv (cxN P w K mg base N qual scope f cdv A outer s H) [] (start N vs) H s1 :=
    ⟨⟨J.ok.mod, J.ok.kind, J.ok.glob, J.ok.blt, J.ok.above, J.ok.inj, J.ok.has, J.ok.cab, fun z => Bool.noConfusion (show false = true from z), Around.frames_deeper e0.frames, J.ok.stk, J.ok.exf, J.ok.bs, J.ok.bsz, J.ok.noex, J.ok.exfs, J.ok.funs, J.ok.frf⟩,
      J.os, J.bare, J.base, J.loc, J.cell, J.free, J.freeC, J.pin, J.hok, J.len⟩
  refine wpAny_mono (ht.run [] s1 (start N vs) H _ I hq) (fun fl s' hs => ?_) fun e s' hs => hs
  cases fl with
  | ret u =>
    obtain ⟨v, σ', H', J', rv, q⟩ := hs
    exact ⟨v, H', J'.os, J'.bare, J'.base, J'.hok, rv, q⟩
  | next =>
    obtain ⟨σ', H', J', q⟩ := hs
    exact ⟨.non, H', J'.os, J'.bare, J'.base, J'.hok, rfl, q⟩
  | brk => exact hs.elim fun _ z => z.elim fun _ y => y.2.elim
  | cont => exact hs.elim fun _ z => z.elim fun _ y => y.2.elim
/-- as any def -/
theorem FnN.ok {k : Nat} {f : Addr} {fd : FuncData} {ps : List Str} {sp : Sp} (F : FnN P w K mg base k f fd ps sp) (h0 : ∀ vs H Q E, sp vs H Q E → sp vs H Q E0) : FnOk P w K mg base (L2.CX P w) k f fd ps sp :=
  ⟨F.len, fun A outer s H args us vs Q E hr e0 hb r hsp => codeAny_mono (F.run A outer s H args us vs Q (roomN_of hr) e0 hb r (h0 _ _ _ _ hsp)) fun r s' hq => by
    cases r with
    | error e => exact hq.elim
    | ok fl => cases fl with
      | ret u => exact hq
      | next => exact hq.elim
      | brk => exact hq.elim
      | cont => exact hq.elim⟩
end
section
variable {X : Cx} {k : Nat} {f : Addr} {fd : FuncData} {ps : List Str} {sp : Sp} {x : Str} {q pos : Pos} {e : Expr} {es : List Expr} {t : TA}
def tCallN (sp : Sp) (t : TA) : TE := fun σ H Q => t σ H fun vs H1 => sp vs H1 Q E0
theorem pe_callN (F : FnN X.prog X.w X.K X.mg X.base k f fd ps sp) (hr : RoomN k X.A) (hg : Gl X x) (hm : X.mg x = some (.ref f)) (hk : PySem.W.keepIn X.K (.ref f) = true) (hb : Binds X.K fd ps [])
    (ha : PA X (e :: es) t) (hdb : (x == ("__debug__" : Str)) = false := by decide) (he : starEach (e :: es) X.env = (false, eval e X.env) :: starEach es X.env := by rfl) (hpl : (backTo pos (starEach es X.env)).any (·.1) = false := by rfl) :
    PE X (.Call (.Name x q) (e :: es) [] pos) (tCallN sp t) := by
  refine ⟨fun pins s σ H Q I h => ?_⟩
  refine wpAny_Call_Name_kw (ld_glob I hg hm ?_ hdb)
  refine PySem.W.callWith_K (h₀ := X.base) I.ok.mod.kin hk (thn (ha.run pos pins s σ H _ I h) fun us s1 hh => ?_) he hpl
  obtain ⟨vs, H1, I1, r, h2⟩ := hh
  refine ⟨I1.kIn, ?_⟩
  have hl : us.length = ps.length := by rw [← r.length]; exact F.len _ _ _ _ h2
  have b := hb s1 us I1.kIn (by rw [List.append_nil]; exact hl)
  rw [List.append_nil] at b
  refine wpAny_call (codeAny_mono (F.run X.A X.stack s1 H1 ⟨us, []⟩ us vs Q hr I1.env0 b r h2) fun r s' hq => ?_)
  cases r with
  | error e => exact hq.elim
  | ok fl => cases fl with
    | ret u => exact I1.after hq
    | next => exact hq.elim
    | brk => exact hq.elim
    | cont => exact hq.elim
end
end G
namespace G
open PySem PySem.Spec PyProof.Rows L2
/-! ## calls whose exceptions the surroundings take (W) -/
section
variable {X : Cx} {k : Nat} {f C : Addr} {fd : FuncData} {ps : List Str} {sp : Sp} {W : WX} {x m : Str} {p pos apos : Pos} {e o : Expr} {es : List Expr} {ta : TE} {t : TA}
/-- f(..) -/
def tCallW (sp : Sp) (W : WX) (t : TA) : TE := fun σ H Q => t σ H fun vs H1 => sp vs H1 Q fun c d H2 => W c d σ H2
theorem pe_callW (tk : Takes X W) (F : FnOk X.prog X.w X.K X.mg X.base (L2.CX X.prog X.w) k f fd ps sp) (hr : Room k X.A) (hg : Gl X x) (hm : X.mg x = some (.ref f)) (hk : PySem.W.keepIn X.K (.ref f) = true) (hb : Binds X.K fd ps [])
    (ha : PA X (e :: es) t) (hdb : (x == ("__debug__" : Str)) = false := by decide) (he : starEach (e :: es) X.env = (false, eval e X.env) :: starEach es X.env := by rfl) (hpl : (backTo pos (starEach es X.env)).any (·.1) = false := by rfl) :
    PE X (.Call (.Name x p) (e :: es) [] pos) (tCallW sp W t) := pe_callS F hr hg hm hk hb (fun σ => passAt tk σ) ha hdb he hpl
theorem pe_callW0 (tk : Takes X W) (F : FnOk X.prog X.w X.K X.mg X.base (L2.CX X.prog X.w) k f fd ps sp) (hr : Room k X.A) (hg : Gl X x) (hm : X.mg x = some (.ref f)) (hk : PySem.W.keepIn X.K (.ref f) = true) (hb : Binds X.K fd ps [])
    (hdb : (x == ("__debug__" : Str)) = false := by decide) : PE X (.Call (.Name x p) [] [] pos) (tCallW sp W tNil) := by
  refine ⟨fun pins s σ H Q I h => wpAny_Call_Name_kw (ld_glob I hg hm ?_ hdb)⟩
  exact PySem.W.callWith_K0 I.kIn hk (run_fnS (us := []) (E := WE W) F hr hb (passAt tk σ) I .nil h)
/-- o.m(..) -/
def tMethW (C : Addr) (m : Str) (sp : Sp) (W : WX) (ta : TE) (t : TA) : TE := fun σ H Q => ta σ H fun x H1 => ∃ a dx fs, x = .ref a ∧ H1 a = some (.ins C dx fs) ∧ fs.lookup m = none ∧ t σ H1 fun vs H2 => sp (x :: vs) H2 Q fun c d H3 => W c d σ H3
theorem pe_methW {pl : Sem Bool} (tk : Takes X W) (he : PE X o ta) (c : Cls X.K C) (hm : Meth X.K C m f) (F : FnOk X.prog X.w X.K X.mg X.base (L2.CX X.prog X.w) k f fd ps sp) (hr : Room k X.A) (hb : Binds X.K fd ps []) (ha : PA X (e :: es) t)
    (hst : starEach (e :: es) X.env = (false, eval e X.env) :: starEach es X.env := by rfl) (hpl : (backTo pos (starEach es X.env)).any (·.1) = false := by rfl)
    (ht : eval (.Call (.Attribute o m apos) (e :: es) [] pos) X.env = (do
      let z ← eval o X.env
      standAt apos.atName
      let (g, one) ← holding [z] (getMethod z m pl)
      callWith pos g one (backTo pos (starEach (e :: es) X.env)) (backToKw pos (keywordEach [] X.env))) := by rfl) :
    PE X (.Call (.Attribute o m apos) (e :: es) [] pos) (tMethW C m sp W ta t) := by
  refine ⟨fun pins s σ H Q I h => ?_⟩
  refine PySem.W.methodCall_KW (pl := pl) (thn (he.run pins s σ H _ I h) fun u s1 hh => ?_) ht
  obtain ⟨y, H1, I1, ry, a, dx, fs, ey, ea, l, q⟩ := hh
  subst ey
  obtain rfl : u = Value.ref a := ry
  refine getmeth_ok I1 ea c hm l ?_
  refine PySem.W.callWith_K (first := [.ref a]) (h₀ := X.base) I.ok.mod.kin hm.kp (thn (ha.run pos pins s1 σ H1 _ I1 q) fun us s2 h2 => ?_) hst hpl
  obtain ⟨vs, H2, I2, r, q2⟩ := h2
  exact ⟨I2.kIn, run_fnS (us := .ref a :: us) (vs := .ref a :: vs) (E := WE W) F hr hb (passAt tk σ) I2 (.cons rfl r) q2⟩
theorem pe_methW0 {pl : Sem Bool} (tk : Takes X W) (he : PE X o ta) (c : Cls X.K C) (hm : Meth X.K C m f) (F : FnOk X.prog X.w X.K X.mg X.base (L2.CX X.prog X.w) k f fd ps sp) (hr : Room k X.A) (hb : Binds X.K fd ps [])
    (ht : eval (.Call (.Attribute o m apos) [] [] pos) X.env = (do
      let z ← eval o X.env
      standAt apos.atName
      let (g, one) ← holding [z] (getMethod z m pl)
      callWith pos g one (backTo pos (starEach [] X.env)) (backToKw pos (keywordEach [] X.env))) := by rfl) :
    PE X (.Call (.Attribute o m apos) [] [] pos) (tMethW C m sp W ta tNil) := by
  refine ⟨fun pins s σ H Q I h => ?_⟩
  refine PySem.W.methodCall_KW (pl := pl) (thn (he.run pins s σ H _ I h) fun u s1 hh => ?_) ht
  obtain ⟨y, H1, I1, ry, a, dx, fs, ey, ea, l, q⟩ := hh
  subst ey
  obtain rfl : u = Value.ref a := ry
  refine getmeth_ok I1 ea c hm l ?_
  exact PySem.W.callWith_K0 (first := [.ref a]) I1.kIn hm.kp (run_fnS (us := [.ref a]) (vs := [.ref a]) (E := WE W) F hr hb (passAt tk σ) I1 (.cons rfl .nil) q)
/-- C(..) -/
def tMakeW (C : Addr) (sp : Sp) (W : WX) (t : TA) : TE := fun σ H Q => t σ H fun vs H1 => ∀ x dx, H1 x = none → H1 dx = none → dx ≠ x →
  sp (.ref x :: vs) (upd (upd H1 dx (.own x)) x (.ins C dx [])) (fun v H2 => v = .non ∧ Q (.ref x) H2) fun c d H3 => W c d σ H3
theorem run_makeW {pins : List (Addr × Obj)} {σ : L2.St} {H : Hp} {s : Shared} {Q : VK} {us : List Value} {vs : List V} (tk : Takes X W) (M : Mk X.K C f) (F : FnOk X.prog X.w X.K X.mg X.base (L2.CX X.prog X.w) k f fd ps sp) (hr : Room (k + 1) X.A) (hb : Binds X.K fd ps [])
    (I : Inv X pins σ H s) (r : Vals vs us)
    (h : ∀ x dx, H x = none → H dx = none → dx ≠ x → sp (.ref x :: vs) (upd (upd H dx (.own x)) x (.ins C dx [])) (fun v H2 => v = .non ∧ Q (.ref x) H2) fun c d H3 => W c d σ H3) :
    wpAny (model X.prog X.w) X.A (call (.ref C) us) (EP X pins σ Q) X.xe s := by
  have go := h (s.heap.objs.size + 1) s.heap.objs.size (I.hok.fresh (Nat.le_succ _)) (I.hok.fresh (Nat.le_refl _)) (Nat.ne_of_lt (Nat.lt_succ_self _))
  have J := Inv.made (C := C) I
  have r2 : Vals (V.ref (s.heap.objs.size + 1) :: vs) (Value.ref (s.heap.objs.size + 1) :: us) := .cons rfl r
  have hl : (Value.ref (s.heap.objs.size + 1) :: us).length = ps.length := r2.length.symm.trans (F.len _ _ _ _ go)
  have b := hb { s with heap := (s.heap.push PySem.W.emptyDict).push (PySem.W.instObj C s.heap.objs.size) } (Value.ref (s.heap.objs.size + 1) :: us) J.kIn (by rw [List.append_nil]; exact hl)
  rw [List.append_nil] at b
  refine wpAny_call (make_map (f := f) I.kIn M.makes M.init (beq_iff_eq.mp M.fn) (codeAny_mono (F.run _ X.stack _ _ ⟨Value.ref (s.heap.objs.size + 1) :: us, []⟩ _ _ _ _ (hr.make C us []) (J.env0.make C us []) b r2 go) fun r s' hq => ?_))
  cases r with
  | error e => exact passAt tk σ pins _ _ e s' J hq
  | ok fl =>
    cases fl with
    | ret u =>
      obtain ⟨v, H', I3, rv, ev, q3⟩ := J.after hq
      subst ev
      exact ⟨rv, V.ref (s.heap.objs.size + 1), H', I3, rfl, q3⟩
    | next => exact hq.elim
    | brk => exact hq.elim
    | cont => exact hq.elim
theorem pe_makeW (tk : Takes X W) (M : Mk X.K C f) (F : FnOk X.prog X.w X.K X.mg X.base (L2.CX X.prog X.w) k f fd ps sp) (hr : Room (k + 1) X.A) (hg : Gl X x) (hm : X.mg x = some (.ref C)) (hb : Binds X.K fd ps [])
    (ha : PA X (e :: es) t) (hdb : (x == ("__debug__" : Str)) = false := by decide) (he : starEach (e :: es) X.env = (false, eval e X.env) :: starEach es X.env := by rfl) (hpl : (backTo pos (starEach es X.env)).any (·.1) = false := by rfl) :
    PE X (.Call (.Name x p) (e :: es) [] pos) (tMakeW C sp W t) := by
  refine ⟨fun pins s σ H Q I h => wpAny_Call_Name_kw (ld_glob I hg hm ?_ hdb)⟩
  refine PySem.W.callWith_K (h₀ := X.base) I.ok.mod.kin M.kp (thn (ha.run pos pins s σ H _ I h) fun us s1 hh => ?_) he hpl
  obtain ⟨vs, H1, I1, r, q⟩ := hh
  exact ⟨I1.kIn, run_makeW tk M F hr hb I1 r q⟩
theorem pe_makeW0 (tk : Takes X W) (M : Mk X.K C f) (F : FnOk X.prog X.w X.K X.mg X.base (L2.CX X.prog X.w) k f fd ps sp) (hr : Room (k + 1) X.A) (hg : Gl X x) (hm : X.mg x = some (.ref C)) (hb : Binds X.K fd ps [])
    (hdb : (x == ("__debug__" : Str)) = false := by decide) : PE X (.Call (.Name x p) [] [] pos) (tMakeW C sp W tNil) := by
  refine ⟨fun pins s σ H Q I h => wpAny_Call_Name_kw (ld_glob I hg hm ?_ hdb)⟩
  exact PySem.W.callWith_K0 I.kIn M.kp (run_makeW (us := []) tk M F hr hb I .nil h)
end

/-! ## try .. except x as n, the exception a tracked thing in the suite -/
/-- what the clause wishes; slot i is n's -/
def wTr (K : PySem.W.Frag) (c : Value) (i : Nat) (ts : TS) (Wo : WX) (D : Ends) : WX := fun cls d σ H => ∃ b, PySem.W.exmOne K cls c = some b ∧
  (b = true → d = none ∧ ∀ a, H a = none → ts { nx := fun σ' H' => D.nx (σ'.set i none) H', rt := D.rt, bk := fun σ' H' => D.bk (σ'.set i none) H', ct := fun σ' H' => D.ct (σ'.set i none) H' } (σ.set i (some (.ref a))) (upd H a (ExA cls a))) ∧ (b = false → Wo cls d σ H)
section
variable {X : Cx} {x n : Str} {c : Value} {i : Nat} {body suite : List Stmt} {b0 : Stmt} {np pos pos' : Pos} {tb : WX → TS} {ts : TS} {Wo : WX}
theorem toSuite {pins : List (Addr × Obj)} {σ : L2.St} {H : Hp} {s : Shared} (I : Inv X pins σ H s) (a : Addr) : Inv (X.suite a (X.pn ++ pins)) [] σ H s :=
  ⟨I.ok.suite _ _, I.os, I.bare, I.base, I.loc, I.cell, I.free, I.freeC, fun p hp => I.pin p (by simpa using hp), I.hok, I.len⟩
theorem ofSuite {pins pl : List (Addr × Obj)} {σ : L2.St} {H : Hp} {s : Shared} {a : Addr} (ok : X.Ok) (I : Inv (X.suite a (X.pn ++ pins)) pl σ H s) : Inv X pins σ H s :=
  ⟨ok, I.os, I.bare, I.base, I.loc, I.cell, I.free, I.freeC, fun p hp => I.pin p (List.mem_append_left _ hp), I.hok, I.len⟩
theorem ps_tryT (hs : X.stack = X.env :: X.outer) (hf : X.env.frame = some X.env.locals) (hex : X.ex = []) (hN : X.N.Nodup) (hi : X.N[i]? = some n) (hln : X.env.kindOf n = some .local) (hc : Names X x c) (tk : Takes X Wo)
    (hb : ∀ (W : WX) (pn : List (Addr × Obj)) (xe : Value → Shared → Prop), Takes (X.tr pn xe) W → PassesOwn (model X.prog X.w) X.A X.env xe → PSs (X.tr pn xe) body (tb W))
    (hsu : ∀ (a : Addr) (pn : List (Addr × Obj)), PSs (X.suite a pn) (b0 :: suite) ts) :
    PS X (.Try body [.ExceptHandler (some (.Name x np)) (some n) (b0 :: suite) pos'] [] [] pos) (fun D σ H => tb (wTr X.K c i ts Wo D) D σ H) := by
  refine ⟨fun pins s σ H D I h => ?_⟩
  have ok := I.ok
  have hfr : X.A.frames = some (X.env :: X.outer) := by rw [ok.frames, hs]
  have lo : Loc X.env.scope n := .inl hln
  let rest : List ExceptHandler := [.ExceptHandler (some (.Name x np)) (some n) (b0 :: suite) pos']
  let M := model X.prog X.w
  let wish : Value → Shared → Prop := fun e u1 => wpAny M X.A (noteFrame e X.env) (fun _ u2 => wpAny M X.A (setFlight e none) (fun _ u3 => wpAny M X.A (handleBy e X.env rest) (SP X pins D) X.xe u3) X.xe u2) X.xe u1
  refine wpAny_Try_except (wpAny_mono ((hb (wTr X.K c i ts Wo D) (X.pn ++ pins) wish (fun u s' air => ?_) PassesOwn.looking).run [] s σ H D (I.toTry _) h) (fun fl s1 hsp => ?_) (fun e s1 he => he))
  · obtain ⟨a, B, sg, pi', σ1, H1, cls, d, rfl, Jt, nb, up, sky, na, os, ag, b, e1, yes, no⟩ := air
    have J : Inv X pins σ1 H1 sg := Jt.ofTry ok
    have sky' : Sky B (X.env :: X.outer) a (Zc cls d) X.env.locals s'.heap := by rw [← hs]; exact sky
    show wpAny M X.A (noteFrame (.ref a) X.env) _ _ _
    refine Sky.land Zc.steady hfr hf sky' fun h3 fl3 up3 => ?_
    have u3 := up.trans up3
    have J3 : Inv X pins σ1 H1 { s' with heap := h3 } := J.landed nb fl3.1 u3 os ag
    obtain ⟨o3, f3, g3, z3, d3⟩ := fl3.there
    have nfr : a ∉ frs (X.env :: X.outer) := fun hm => by
      obtain ⟨-, o', g', nf⟩ := fl3.2.2.1.mem hm
      rw [g3] at g'
      cases g'
      exact nf _ d3
    have nL : a ≠ X.env.locals := fun z => nfr (List.mem_filterMap.mpr ⟨X.env, List.mem_cons_self, by rw [hf, z]⟩)
    have nst : a ∉ frs X.stack := by rw [hs]; exact nfr
    have nB : B.get? a = none := fl3.2.1
    have ng : sg.heap.get? a = none := by
      cases e : sg.heap.get? a with
      | none => rfl
      | some o =>
        rw [nb a o e nst] at nB
        cases nB
    have n0 : X.s_0.heap.get? a = none := by
      cases e : X.s_0.heap.get? a with
      | none => rfl
      | some o =>
        obtain ⟨o', q⟩ := J.base.there a o e (by rw [hex]; exact List.not_mem_nil)
        rw [ng] at q
        cases q
    have nC : ∀ y z, X.env.cells.lookup y = some z → z ≠ a := fun y z e q => by
      obtain ⟨v, ob, e2, -⟩ := J.cell y z e
      rw [q, ng] at e2
      cases e2
    have nP : ∀ p ∈ X.pn ++ pins, p.1 ≠ a := fun p hp q => by
      have e2 := (J.pin p hp).1
      rw [q, ng] at e2
      cases e2
    have S3 := toSuite J3 a
    refine wpAny_handleBy_cons (codeAny_handlers_test ?_) (by intro q; cases q)
    have LT : PySem.W.Looks M h3 (typeOf (.ref a)) cls := fun _ _ _ _ k q => wpAny_typeOf_ref (k _ _ g3) (by rw [z3.1]; exact q)
    have LM := PySem.W.exm_one (M := M) J3.kIn LT e1
    have test : ∀ {Q : Value → Shared → Prop} {E : Value → Shared → Prop}, Q c { s' with heap := h3 } → wpAny M (X.A.mark (some (.ref a))) (eval (.Name x np) X.env) Q E { s' with heap := h3 } := fun {Q E} q => by
      obtain ⟨hg, hdb, hm | ⟨hm, hv, hnn⟩⟩ := hc
      · exact ld_glob (X := X.suite a (X.pn ++ pins)) S3 hg hm q hdb
      · exact ld_blt (X := X.suite a (X.pn ++ pins)) S3 hg hm hv q hnn hdb
    refine test (LM.here ?_)
    cases b with
    | true =>
      refine codeAny_handlers_suite_as (HandSPX.lands_againZ fl3 fun h4 fl4 up4 => ?_)
      have J4 : Inv X pins σ1 H1 { s' with heap := h4 } := J.landed nb fl4.1 (u3.trans up4) os ag
      obtain ⟨o4, f4, g4, z4, d4⟩ := fl4.there
      obtain ⟨ed, go⟩ := yes rfl
      subst ed
      have J5 := track (u := ExA cls a) J4 na n0 nL nC nP (exA_ok g4 z4 d4)
      refine store_ok (X := X.suite a (X.pn ++ pins)) (v := .ref a) (toSuite J5 a) hN hi lo rfl (fun s5 S5 => ?_) (.inr hln)
      refine wpAny_mono ((hsu a (X.pn ++ pins)).run [] s5 _ _ _ S5 (go a na)) (fun fl s6 hsp => ?_) (fun _ _ z => False.elim z)
      have out : ∀ {σ6 : L2.St} {H6 : Hp} {Q : Shared → Prop}, Inv (X.suite a (X.pn ++ pins)) [] σ6 H6 s6 → (∀ s7, Inv X pins (σ6.set i none) H6 s7 → Q s7) →
          wpAny M X.A (do bindName X.env n .none; unbindBehindTheSuite X.env n pos') (fun _ s7 => Q s7) X.xe s6 := fun S6 hq => gone_ok (ofSuite ok S6) hN hi hln hq
      cases fl with
      | next => exact hsp.elim fun _ z => z.elim fun _ q => out q.1 fun s7 J7 => ⟨_, _, J7, q.2⟩
      | brk => exact hsp.elim fun _ z => z.elim fun _ q => out q.1 fun s7 J7 => ⟨_, _, J7, q.2⟩
      | cont => exact hsp.elim fun _ z => z.elim fun _ q => out q.1 fun s7 J7 => ⟨_, _, J7, q.2⟩
      | ret u =>
        obtain ⟨v6, σ6, H6, S6, r6, q6⟩ := hsp
        exact out S6 fun s7 J7 => ⟨_, _, _, J7, r6, q6⟩
    | false =>
      show wpAny M X.A (handleBy (.ref a) X.env []) _ _ _
      refine wpAny_handleBy_nil ?_
      obtain ⟨-, -, -, oe, vs, T, oT, ts', he, hz, hd, h1, hr⟩ := id fl3
      unfold PySem.passOn
      refine wpAny_bind (wpAny_field he hd h1 ?_)
      rw [if_neg (show ¬ ((Value.ref T == Value.none) = true) from by simp)]
      have fin : wpAny M X.A (setFlight (.ref a) X.env.frame) (fun _ u4 => wpAny M X.A (throw (.ref a) : Sem Flow) (SP X pins D) X.xe u4) X.xe { s' with heap := h3 } := by
        rw [hf]
        refine HandSPX.setFlight_upZ fl3 fun h4 hh4 up4 => wpAny_throw (tk _ _ ?_)
        exact ⟨a, B, sg, pins, σ1, H1, cls, d, rfl, J, nb, u3.trans up4, .inr (.inr (by rw [hs]; exact hh4)), na, os, ag, no rfl⟩
      first
        | exact wpAny_bind (wpAny_pure (wpAny_bind fin))
        | exact wpAny_bind fin
  · cases fl with
    | next => exact hsp.elim fun σ1 z => z.elim fun H1 q => wpAny_execs_nil ⟨σ1, H1, q.1.ofTry ok, q.2⟩
    | brk => exact hsp.elim fun σ1 z => z.elim fun H1 q => ⟨σ1, H1, q.1.ofTry ok, q.2⟩
    | cont => exact hsp.elim fun σ1 z => z.elim fun H1 q => ⟨σ1, H1, q.1.ofTry ok, q.2⟩
    | ret u =>
      obtain ⟨v, σ1, H1, J, r, q⟩ := hsp
      exact ⟨v, σ1, H1, J.ofTry ok, r, q⟩
end
end G
namespace G
open PySem PySem.Spec PyProof.Rows L2
/-! ## isinstance -/
def tyO : Option HO → Option String
  | some (.lst _) => some "list"
  | some (.frz _ (.lst _)) => some "list"
  | some (.tup _) => some "tuple"
  | some (.dK _) => some "dict"
  | some (.dT _) => some "dict"
  | _ => none
def tyOf : V → Hp → Option String
  | .non, _ => some "NoneType"
  | .bl _, _ => some "bool"
  | .int _, _ => some "int"
  | .str _, _ => some "str"
  | .ref a, H => tyO (H a)
  | _, _ => none
theorem tyOf_ok {K : PySem.W.Frag} {x : V} {H : Hp} {t : String} (h : tyOf x H = some t) : TyX K H x (.type t) := by
  cases x with
  | non => cases h; exact .base .non
  | bl b => cases h; exact .base (.bl b)
  | int i => cases h; exact .base (.int i)
  | str z => cases h; exact .base (.str z)
  | byt z => cases h
  | flt z => cases h
  | ty z => cases h
  | ref a =>
    have h1 : tyO (H a) = some t := h
    unfold tyO at h1
    split at h1
    · rename_i e; cases h1; exact .base (.lst e)
    · rename_i e; cases h1; exact .base (.frz e)
    · rename_i e; cases h1; exact .base (.tup e)
    · rename_i e; cases h1; exact .base (.dK e)
    · rename_i e; cases h1; exact .base (.dT e)
    · cases h1
/-- the classes that are asked of plain things, and the answer -/
def isB (t n : String) : Bool := t == n || (t == "bool" && n == "int")
def tys : List String := ["NoneType", "bool", "int", "str", "list", "tuple", "dict"]
theorem isB_all : ∀ t ∈ tys, ∀ n ∈ (["int", "bool", "str", "list", "tuple", "dict"] : List String), kitB t n = some (isB t n) := by decide +kernel
theorem tyOf_in {x : V} {H : Hp} {t : String} (h : tyOf x H = some t) : t ∈ tys := by
  unfold tyOf at h
  split at h
  all_goals first
    | (cases h; decide)
    | (unfold tyO at h; split at h <;> first | (cases h; decide) | (cases h))
    | (cases h)
/-- isinstance(x, T) of a plain thing -/
def gIsi : List V → Hp → VK → Prop
  | [x, .ty n], H, Q => n ∈ (["int", "bool", "str", "list", "tuple", "dict"] : List String) ∧ ∃ t, tyOf x H = some t ∧ Q (.bl (isB t n)) H
  | _, _, _ => False
section
variable {X : Cx}
theorem call_gIsi : CallR X (.builtin "isinstance") gIsi := by
  intro pins s σ H xs us Q I r h
  unfold gIsi at h
  split at h
  · obtain ⟨hn, t, ht, q⟩ := h
    exact call_isi pins s σ _ _ us Q I r ⟨_, _, .type t, .type _, _, rfl, .ty _, tyOf_ok ht, kit_ty (isB_all t (tyOf_in ht) _ hn), q⟩
  · exact h.elim
/-- isinstance(e, C) of a caught error -/
def gIsE (K : PySem.W.Frag) : List V → Hp → VK → Prop
  | [.ref a, c], H, Q => ∃ D u b, H a = some (ExA (.ref D) a) ∧ ExcC K D ∧ ClsV c u ∧ PySem.W.kitOne K (.ref D) u = some b ∧ Q (.bl b) H
  | _, _, _ => False
theorem exA_kit {pins : List (Addr × Obj)} {σ : L2.St} {H : Hp} {s : Shared} {a D : Addr} (I : Inv X pins σ H s) (h : H a = some (ExA (.ref D) a)) (C : ExcC X.K D) : ∃ P : Heap → Prop, PySem.W.KitX X.K (.ref a) (.ref D) P ∧ P s.heap := by
  obtain ⟨⟨o, fv, e, z, d⟩, -, -⟩ := I.hok a _ h
  have J : PySem.W.InstAt s.heap a o D none := by
    obtain ⟨oc, od, dt, sl⟩ := o
    obtain ⟨z1, z2⟩ := z
    dsimp only at z1 z2 d
    subst z1 z2 d
    exact ⟨e, rfl, rfl, trivial⟩
  exact ⟨_, PySem.W.handS_kitx_exc C.hg C.hk C.hs C.hd C.ha C.hn C.ht C.hm, J⟩
theorem call_gIsE : CallR X (.builtin "isinstance") (gIsE X.K) := by
  intro pins s σ H xs us Q I r h
  unfold gIsE at h
  split at h
  · obtain ⟨D, u, b, ha, C, hc, hk, q⟩ := h
    obtain ⟨u1, u2, rfl, r1, r2⟩ := vals2 r
    have e2 := hc.eq r2
    subst e2
    cases (show u1 = Value.ref _ from r1)
    obtain ⟨P, Z, p⟩ := exA_kit I ha C
    exact PySem.W.kia_one Z I.kIn p hk (fun z => nomatch z) fun tk => ⟨.bl b, _, I.tok tk, rfl, q⟩
  · exact h.elim
/-- isinstance(e, (C1, C2, ..)) of a caught error: the tuple is never seen again -/
def tIsT (K : PySem.W.Frag) (ta : TE) (tc : TA) : TE := fun σ H Q => ta σ H fun x H1 => tc σ H1 fun cs H2 => cs.length ≤ sizeLine ∧ ∃ a D us b, x = .ref a ∧ H2 a = some (ExA (.ref D) a) ∧ ExcC K D ∧ Paired ClsV cs us ∧ PySem.W.kitAny K (.ref D) us = some b ∧ Q (.bl b) H2
theorem pe_isT {a : Expr} {es : List Expr} {x1} {ta : TE} {tc : TA} {p tp pos : Pos} (hg : Gl X "isinstance") (hm : X.mg "isinstance" = none) (ha : PE X a ta) (hc : PA X es tc)
    (he : starEach [a, .Tuple es x1 tp] X.env = [(false, eval a X.env), (false, eval (.Tuple es x1 tp) X.env)] := by rfl) : PE X (.Call (.Name "isinstance" p) [a, .Tuple es x1 tp] [] pos) (tIsT X.K ta tc) := by
  refine ⟨fun pins s σ H Q I h => ?_⟩
  refine wpAny_Call_Name_kw (ld_blt I hg hm (by decide +kernel : bootBuiltins "isinstance" = some (.builtin "isinstance")) ?_ (by decide) (by decide))
  refine PyProof.Rows.callWith_builtin1 (rest := [.Tuple es x1 tp]) ?_ he rfl
  rw [he]
  show wpAny _ _ (spliced [(false, eval a X.env), (false, eval (.Tuple es x1 tp) X.env)]) _ _ _
  refine Calls.spliced_cons (thn (ha.run pins s σ H _ I h) fun u s1 ⟨x, H1, I1, rx, q1⟩ => ?_)
  refine Calls.spliced_cons (wpAny_Tuple_spliced (x1 := x1) (thn (hc.run tp pins s1 σ H1 _ I1 q1) fun us s2 hh => ?_))
  obtain ⟨cs, H2, I2, rc, hz, y, D, ws, b, ex, hy, C, hcl, hk, q⟩ := hh
  subst ex
  cases (show u = Value.ref y from rx)
  refine ⟨by rw [← rc.length]; exact hz, Calls.spliced_nil ?_⟩
  have e3 := ClsV.all hcl rc
  subst e3
  have I3 : Inv X pins σ H2 { s2 with heap := s2.heap.push { cls := .type "tuple", data := .seq us.toArray } } := I2.kept (t' := s2.toks) fun _ _ e => Heap.get?_push_of_some _ e
  obtain ⟨P, Z, p⟩ := exA_kit I3 hy C
  exact PySem.W.kia_tup Z I3.kIn p (Heap.get?_push_size _ rfl) hk (fun z => nomatch z) fun tk => ⟨.bl b, H2, I3.tok tk, rfl, q⟩

/-! ## operators by the kinds of their values -/
def gAdd : R2
  | .int i, .int j, H, Q => Q (.int (i + j)) H
  | .str i, .str j, H, Q => i.length + j.length ≤ sizeLine ∧ Q (.str (i ++ j)) H
  | .ref a, .ref b, H, Q => ∃ xs zs, H a = some (.lst xs) ∧ H b = some (.lst zs) ∧ xs.length + zs.length ≤ sizeLine ∧ ∀ p, H p = none → Q (.ref p) (upd H p (.lst (xs ++ zs)))
  | _, _, _, _ => False
theorem op_gAdd : OpR X (binaryOp .Add) gAdd := by
  intro pins s σ H x y v u Q I rx ry h
  unfold gAdd at h
  split at h
  · exact op_add pins s σ _ _ _ v u Q I rx ry ⟨_, _, rfl, rfl, h⟩
  · exact op_add_str pins s σ _ _ _ v u Q I rx ry ⟨_, _, rfl, rfl, h.1, h.2⟩
  · obtain ⟨xs, zs, h1, h2, h3, h4⟩ := h
    exact op_cat pins s σ _ _ _ v u Q I rx ry ⟨_, _, xs, zs, rfl, rfl, h1, h2, h3, h4⟩
  · exact h.elim
def gMul : R2
  | .int i, .int j, H, Q => ((-(2 ^ 64) < i ∧ i < 2 ^ 64) ∨ (-(2 ^ 64) < j ∧ j < 2 ^ 64)) ∧ Q (.int (i * j)) H
  | .str z, .int n, H, Q => (n = 0 ∨ n = 1) ∧ Q (.str (if n = 1 then z else Str.empty)) H
  | .ref a, .int k, H, Q => ∃ xs, H a = some (.lst xs) ∧ -(2 ^ 63) ≤ k ∧ k < 2 ^ 63 ∧ xs.length * k.toNat ≤ sizeLine ∧ ∀ p, H p = none → Q (.ref p) (upd H p (.lst ((List.replicate k.toNat xs).flatten)))
  | _, _, _, _ => False
theorem op_gMul : OpR X (binaryOp .Mult) gMul := by
  intro pins s σ H x y v u Q I rx ry h
  unfold gMul at h
  split at h
  · exact op_mul pins s σ _ _ _ v u Q I rx ry ⟨_, _, rfl, rfl, h.1, h.2⟩
  · rename_i z n
    obtain ⟨hn, q⟩ := h
    obtain ⟨t, rfl⟩ := rx
    obtain ⟨t', rfl⟩ := ry
    rcases hn with rfl | rfl
    · exact PySem.P.mul_str_none (by decide) (by decide) ⟨.str Str.empty, _, I.tok _, ⟨_, rfl⟩, q⟩
    · refine PySem.P.mul_str (by decide) (fun _ z => by simp at z) (fun _ z => by simp at z) ?_
      exact ⟨.str z, _, I, ⟨_, rfl⟩, q⟩
  · obtain ⟨xs, h1, h2, h3, h4, h5⟩ := h
    exact op_rep pins s σ _ _ _ v u Q I rx ry ⟨_, _, xs, rfl, rfl, h1, h2, h3, h4, h5⟩
  · exact h.elim
/-- == : flat values; else data of any depth -/
def gEq (K : PySem.W.Frag) : R2 := fun x y H Q => if flatV x && flatV y then Q (.bl (eqV x y)) H else rEqD K x y H Q
def gNe (K : PySem.W.Frag) : R2 := fun x y H Q => if flatV x && flatV y then Q (.bl (!eqV x y)) H else rNeD K x y H Q
theorem flat_eqv {K : PySem.W.Frag} {H : Hp} {x y : V} (hx : flatV x = true) (hy : flatV y = true) :
    (scal x y = true ∧ decide (x = y) = eqV x y) ∨ ∃ d e, Dp K H x d ∧ Dp K H y e ∧ SeqAt.shaped d = true ∧ SeqAt.shaped e = true ∧ PyData.eqv d e = eqV x y := by
  cases x <;> first | (cases hx; done) | skip
  all_goals (cases y <;> first | (cases hy; done) | skip)
  case bl.int b i => exact .inr ⟨_, _, .bl b, .int i, by cases b <;> decide, rfl, rfl⟩
  case int.bl i b => exact .inr ⟨_, _, .int i, .bl b, rfl, by cases b <;> decide, rfl⟩
  all_goals refine .inl ⟨rfl, ?_⟩
  all_goals first
    | rfl
    | exact dec_int
    | exact dec_bl
    | exact dec_str
theorem op_gEq (hu : X.A.units + 64 < cLine) : OpR X (compareOp .Eq) (gEq X.K) := by
  intro pins s σ H x y v u Q I rx ry h
  unfold gEq at h
  split at h
  · rename_i c
    obtain ⟨c1, c2⟩ := Bool.and_eq_true_iff.mp c
    rcases flat_eqv (K := X.K) (H := H) c1 c2 with ⟨h1, h2⟩ | ⟨d, e, h1, h2, h3, h4, h5⟩
    · exact op_eq pins s σ _ _ _ v u Q I rx ry ⟨h1, by rw [h2]; exact h⟩
    · exact op_eqD hu pins s σ _ _ _ v u Q I rx ry ⟨d, e, h1, h2, h3, h4, by rw [h5]; exact h⟩
  · exact op_eqD hu pins s σ _ _ _ v u Q I rx ry h
theorem op_gNe (hu : X.A.units + 64 < cLine) : OpR X (compareOp .NotEq) (gNe X.K) := by
  intro pins s σ H x y v u Q I rx ry h
  unfold gNe at h
  split at h
  · rename_i c
    obtain ⟨c1, c2⟩ := Bool.and_eq_true_iff.mp c
    rcases flat_eqv (K := X.K) (H := H) c1 c2 with ⟨h1, h2⟩ | ⟨d, e, h1, h2, h3, h4, h5⟩
    · exact op_ne pins s σ _ _ _ v u Q I rx ry ⟨h1, by rw [h2]; exact h⟩
    · exact op_neD hu pins s σ _ _ _ v u Q I rx ry ⟨d, e, h1, h2, h3, h4, by rw [h5]; exact h⟩
  · exact op_neD hu pins s σ _ _ _ v u Q I rx ry h
/-- abs, int(..) -/
def gAbs : List V → Hp → VK → Prop
  | [.int i], H, Q => Q (.int (i.natAbs : Int)) H
  | _, _, _ => False
theorem call_gAbs : CallR X (.builtin "abs") gAbs := by
  intro pins s σ H xs us Q I r h
  unfold gAbs at h
  split at h
  · rename_i i
    refine call_abs pins s σ _ _ us Q I r ⟨i, rfl, ?_⟩
    have e : (if i < 0 then -i else i) = (i.natAbs : Int) := by split <;> omega
    rw [e]
    exact h
  · exact h.elim
def gInt : List V → Hp → VK → Prop
  | [.int i], H, Q => Q (.int i) H
  | [.bl k], H, Q => Q (.int (if k then 1 else 0)) H
  | _, _, _ => False
theorem call_gInt : CallR X (.type "int") gInt := by
  intro pins s σ H xs us Q I r h
  unfold gInt at h
  split at h
  · exact call_int1 pins s σ _ _ us Q I r (.inl ⟨_, rfl, h⟩)
  · exact call_int1 pins s σ _ _ us Q I r (.inr ⟨_, rfl, h⟩)
  · exact h.elim
end
end G
namespace G
open PySem PySem.Spec PyProof.Rows L2
open He (ga ma fAd Fa DefD SaysD)
/-! ## what the top has written, by names -/
/-- what isinstance asks of an error's class -/
def excB (K : PySem.W.Frag) (D : Addr) : Bool :=
  (decide (PySem.W.findIn K (.ref D) "__getattribute__" = some (some (.builtin "BaseException.__getattribute__"))) && (decide (PySem.W.findIn K (.ref D) "__getattr__" = some none) && (decide (PySem.W.subIn K (.ref D) (.type "BaseException") = some true) && PySem.W.hasDictIn K D))) &&
  (decide (PySem.W.findIn K (.ref D) "__class__" = some (some (.builtin "object.__class__"))) && (decide (PySem.W.specialIn K (.builtin "object.__class__") "__get__" = some (some (.builtin "getset_descriptor.__get__"))) &&
    (decide (PySem.W.takesIn K (.builtin "object.__class__") = some true) && decide (PySem.W.mroIn K D (.type "object") = some true))))
theorem excB_ok {K : PySem.W.Frag} {D : Addr} (h : excB K D = true) : ExcC K D := by
  obtain ⟨h1, h2⟩ := He.ba h
  obtain ⟨a1, h1⟩ := He.ba h1
  obtain ⟨a2, h1⟩ := He.ba h1
  obtain ⟨a3, a4⟩ := He.ba h1
  obtain ⟨b1, h2⟩ := He.ba h2
  obtain ⟨b2, h2⟩ := He.ba h2
  obtain ⟨b3, b4⟩ := He.ba h2
  exact ⟨of_decide_eq_true a1, of_decide_eq_true a2, of_decide_eq_true a3, a4, of_decide_eq_true b1, of_decide_eq_true b2, of_decide_eq_true b3, of_decide_eq_true b4⟩
/-- d is a class under c -/
def under (d c : Str) : Bool := d == c || c == "KeepError"
/-- a class of the module, no text -/
structure ClN (K : PySem.W.Frag) (C : Addr) : Prop where
  ha : PySem.W.findIn K (.ref C) "__class__" = some (some (.builtin "object.__class__"))
  hn : PySem.W.specialIn K (.builtin "object.__class__") "__get__" = some (some (.builtin "getset_descriptor.__get__"))
  htk : PySem.W.takesIn K (.builtin "object.__class__") = some true
  hm : PySem.W.mroIn K C (.type "object") = some true
  no : PySem.W.kitOne K (.ref C) (.type "str") = some false
def clB (K : PySem.W.Frag) (C : Addr) : Bool := (decide (PySem.W.findIn K (.ref C) "__class__" = some (some (.builtin "object.__class__"))) && (decide (PySem.W.specialIn K (.builtin "object.__class__") "__get__" = some (some (.builtin "getset_descriptor.__get__"))) &&
  (decide (PySem.W.takesIn K (.builtin "object.__class__") = some true) && (decide (PySem.W.mroIn K C (.type "object") = some true) && decide (PySem.W.kitOne K (.ref C) (.type "str") = some false)))))
theorem clB_ok {K : PySem.W.Frag} {C : Addr} (h : clB K C = true) : ClN K C := by
  obtain ⟨h1, h⟩ := He.ba h
  obtain ⟨h2, h⟩ := He.ba h
  obtain ⟨h3, h⟩ := He.ba h
  obtain ⟨h4, h5⟩ := He.ba h
  exact ⟨of_decide_eq_true h1, of_decide_eq_true h2, of_decide_eq_true h3, of_decide_eq_true h4, of_decide_eq_true h5⟩
structure XL where
  (ex cl : List Str)
/-- the errors' classes, and others -/
def exOk1 (L : List Str) (K : PySem.W.Frag) : Bool := L.all fun d => excB K (ga K d) && (decide (PySem.W.kitOne K (.ref (ga K d)) (.type "ValueError") = some true) &&
  (L.all fun c => decide (PySem.W.kitOne K (.ref (ga K d)) (.ref (ga K c)) = some (under d c)) && decide (PySem.W.exmOne K (.ref (ga K d)) (.ref (ga K c)) = some (under d c))))
def exOk (L : XL) (K : PySem.W.Frag) : Bool := exOk1 L.ex K && L.cl.all fun c => clB K (ga K c)
structure Told (fa : List Fa) (fn : List DefD) (xl : XL) (K : PySem.W.Frag) (mg : Str → Option Value) : Prop where
  ex : ∃ h : Heap, K.In h ∧ h.Ns mainGlobals mg
  says : SaysD fa fn K
  errs : exOk xl K = true
/-- what an object names, but for its class and the classes over it -/
def refsX (o : Obj) : List Addr := (match o.data with
  | .seq its _ => its.toList.flatMap He.refV
  | .dict es _ => es.toList.flatMap fun e => He.refV e.val
  | .func fd => He.refV fd.code ++ He.refV fd.defaults ++ He.refV fd.kwdefaults ++ fd.closure.map (·.2)
  | .cls cd => [cd.ns]
  | .fields vs => vs.toList.flatMap He.refV
  | .cell (some v) => He.refV v
  | _ => []) ++ match o.dict with
  | some d => [d]
  | none => []
def nextX (g : Addr → Option Obj) (as : List Addr) : List Addr := as.flatMap fun a => match g a with
  | some o => refsX o
  | none => []
/-- what the module's names lead to, level by level -/
def asX (g : Addr → Option Obj) : Nat → List Addr → List Addr
  | 0, as => as
  | n + 1, as => as ++ asX g n (nextX g as)
/-- the head's look -/
def lookG (n : Nat) (fa : List Fa) (fn : List DefD) (xl : XL) (g : Addr → Option Obj) : He.AlD × Bool := (He.obsD fa fn (He.frG g (asX g n [mainGlobals])), exOk xl (He.frG g (asX g n [mainGlobals])))
def hookG (n : Nat) (fa : List Fa) (fn : List DefD) (xl : XL) : PySem.W.Hook where
  α := He.AlD × Bool
  obs := fun s => lookG n fa fn xl s.heap.get?
  val := fun _ => (He.valD fn, true)
  says := fun _ h => ∃ K : PySem.W.Frag, K.In h ∧ SaysD fa fn K ∧ exOk xl K = true
  of := fun _ _ e => ⟨_, He.frG_in, congrArg (fun z : He.AlD × Bool => z.1) e, congrArg (fun z : He.AlD × Bool => z.2) e⟩
  keeps := fun _ _ _ ⟨K, hK, c⟩ k => ⟨K, PySem.W.Frag.In.keeps hK k, c⟩
theorem lookG_eq {n : Nat} {fa : List Fa} {fn : List DefD} {xl : XL} {g : Addr → Option Obj} {s : Shared} (h : ∀ a, g a = s.heap.get? a) : lookG n fa fn xl g = (hookG n fa fn xl).obs s := by
  have e : g = s.heap.get? := funext h
  rw [e]
  rfl
section
variable {fa : List Fa} {fn : List DefD} {xl : XL} {K : PySem.W.Frag} {mg : Str → Option Value}
theorem Told.glo (T : Told fa fn xl K mg) (i : Nat) {x : Str} (h : fa[i]? = some (.glo x) := by rfl) : mg x = some (.ref (ga K x)) := let ⟨_, X, N⟩ := T.ex; He.glo_ok X N (T.says.fact i h)
theorem Told.free (T : Told fa fn xl K mg) (i : Nat) {x : Str} (h : fa[i]? = some (.free x) := by rfl) : mg x = none := let ⟨_, X, N⟩ := T.ex; He.free_ok X N (T.says.fact i h)
theorem Told.num (T : Told fa fn xl K mg) (i : Nat) {x : Str} {n : Int} (h : fa[i]? = some (.int x n) := by rfl) : ∃ t, mg x = some (.int n t) := let ⟨_, X, N⟩ := T.ex; He.int_ok X N (T.says.fact i h)
theorem Told.txt (T : Told fa fn xl K mg) (i : Nat) {x z : Str} (h : fa[i]? = some (.str x z) := by rfl) : ∃ t, mg x = some (.str z t) := let ⟨_, X, N⟩ := T.ex; He.str_ok X N (T.says.fact i h)
theorem Told.err (T : Told fa fn xl K mg) {d : Str} (h : d ∈ xl.ex) : ExcC K (ga K d) ∧ PySem.W.kitOne K (.ref (ga K d)) (.type "ValueError") = some true ∧
    ∀ c ∈ xl.ex, PySem.W.kitOne K (.ref (ga K d)) (.ref (ga K c)) = some (under d c) ∧ PySem.W.exmOne K (.ref (ga K d)) (.ref (ga K c)) = some (under d c) := by
  obtain ⟨h1, h2⟩ := He.ba (List.all_eq_true.mp (He.ba T.errs).1 d h)
  obtain ⟨h3, h4⟩ := He.ba h2
  refine ⟨excB_ok h1, of_decide_eq_true h3, fun c hc => ?_⟩
  obtain ⟨h5, h6⟩ := He.ba (List.all_eq_true.mp h4 c hc)
  exact ⟨of_decide_eq_true h5, of_decide_eq_true h6⟩
theorem Told.cln (T : Told fa fn xl K mg) {c : Str} (h : c ∈ xl.cl) : ClN K (ga K c) := clB_ok (List.all_eq_true.mp (He.ba T.errs).2 c h)
/-- isinstance(e, c) of an error of class d -/
theorem Told.isE (T : Told fa fn xl K mg) {d c : Str} {a : Addr} {H : Hp} {Q : VK} (ha : H a = some (ExA (.ref (ga K d)) a)) (hd : d ∈ xl.ex) (hc : c ∈ xl.ex) (q : Q (.bl (under d c)) H) : gIsE K [.ref a, .ref (ga K c)] H Q :=
  ⟨_, _, _, ha, (T.err hd).1, .own _, ((T.err hd).2.2 c hc).1, q⟩
theorem Told.isY (T : Told fa fn xl K mg) {d c : Str} {a : Addr} {H : Hp} {Q : VK} (ha : H a = some (ExA (.ref (ga K d)) a)) (hd : d ∈ xl.ex) (hc : c ∈ xl.ex) (e : under d c = true) (q : Q (.bl true) H) : gIsE K [.ref a, .ref (ga K c)] H Q := T.isE ha hd hc (e ▸ q)
theorem Told.isN (T : Told fa fn xl K mg) {d c : Str} {a : Addr} {H : Hp} {Q : VK} (ha : H a = some (ExA (.ref (ga K d)) a)) (hd : d ∈ xl.ex) (hc : c ∈ xl.ex) (e : under d c = false) (q : Q (.bl false) H) : gIsE K [.ref a, .ref (ga K c)] H Q := T.isE ha hd hc (e ▸ q)
theorem Told.isV (T : Told fa fn xl K mg) {d : Str} {a : Addr} {H : Hp} {Q : VK} (ha : H a = some (ExA (.ref (ga K d)) a)) (hd : d ∈ xl.ex) (q : Q (.bl true) H) : gIsE K [.ref a, .ty "ValueError"] H Q :=
  ⟨_, _, _, ha, (T.err hd).1, .ty _, (T.err hd).2.1, q⟩
end
section
variable {fa : List Fa} {fn : List DefD} {xl : XL} {K : PySem.W.Frag} {mg : Str → Option Value}
/-- an error of class d reaches «except c», c over it -/
theorem Told.caught (T : Told fa fn xl K mg) {d c : Str} {i : Nat} {ts : TS} {Wo : WX} {D : Ends} {σ : L2.St} {H : Hp} (hd : d ∈ xl.ex) (hc : c ∈ xl.ex) (hu : under d c = true)
    (h : ∀ a, H a = none → ts { nx := fun σ' H' => D.nx (σ'.set i none) H', rt := D.rt, bk := fun σ' H' => D.bk (σ'.set i none) H', ct := fun σ' H' => D.ct (σ'.set i none) H' } (σ.set i (some (.ref a))) (upd H a (ExA (.ref (ga K d)) a))) :
    wTr K (.ref (ga K c)) i ts Wo D (.ref (ga K d)) none σ H :=
  ⟨true, by rw [((T.err hd).2.2 c hc).2, hu], fun _ => ⟨rfl, h⟩, fun z => by cases z⟩
end
/-- the function object at f -/
def fdAt (K : PySem.W.Frag) (f : Addr) : FuncData := match K.lookup f with
  | some ⟨_, _, .func fd, _⟩ => fd
  | _ => PySem.W.fnOf "" "" { posonlyargs := [], args := [], vararg := none, kwonlyargs := [], kw_defaults := [], kwarg := none, defaults := [] } [] { kind := .function, names := [], isGenerator := false, isCoroutine := false } .none .none .none .none none .none .none
theorem fdAt_of {K : PySem.W.Frag} {x qual : Str} {params : Arguments} {body : List Stmt} {scope : Scope} {dvs : List V} {kws : List (Str × V)} {f : Addr} {fd : FuncData} (F : FunD K x qual params body scope dvs kws f fd) : fd = fdAt K f := by
  obtain ⟨oc, od, dV, kV, doc, pm, an, cdv, ct, osl, rfl, lk, -⟩ := F.ex
  unfold fdAt
  rw [lk]
/-- every argument is given -/
def Bnd (fd : FuncData) (ps : List Str) : Prop := ∀ (s : Shared) (us : List Value), us.length = ps.length → BindsTo s fd ⟨us, []⟩ (ps.zip us)
theorem Bnd.to {K : PySem.W.Frag} {fd : FuncData} {ps : List Str} (b : Bnd fd ps) : Binds K fd ps [] := fun s us _ hl => by
  rw [List.append_nil] at hl ⊢
  exact b s us hl
/-- a def of the module: its promise sp -/
structure Fn (P : Program) (w : World) (K : PySem.W.Frag) (mg : Str → Option Value) (base : Heap) (k : Nat) (x : Str) (ps : List Str) (sp : Sp) : Prop where
  ok : FnOk P w K mg base (L2.CX P w) k (ga K x) (fdAt K (ga K x)) ps sp
  bd : Bnd (fdAt K (ga K x)) ps
  kp : PySem.W.keepIn K (.ref (ga K x)) = true
  at_ : mg x = some (.ref (ga K x))
/-- nothing is raised -/
theorem quiet {P : Program} {w : World} {K : PySem.W.Frag} {mg : Str → Option Value} {base : Heap} {k : Nat} {f : Addr} {fd : FuncData} {ps : List Str} {sp : Sp} (F : FnOk P w K mg base (L2.CX P w) k f fd ps sp) (h0 : ∀ vs H Q E, sp vs H Q E → sp vs H Q E0) : FnOk P w K mg base CX0 k f fd ps sp :=
  ⟨F.len, fun A outer s H args us vs Q E hr e0 hb r hsp => codeAny_mono (F.run A outer s H args us vs Q E0 hr e0 hb r (h0 _ _ _ _ hsp)) fun r s' hq => by
    cases r with
    | error e =>
      obtain ⟨_, _, _, _, _, _, _, _, _, _, _, _, y⟩ := hq
      exact y.elim
    | ok fl => cases fl with
      | ret u => exact hq
      | next => exact hq.elim
      | brk => exact hq.elim
      | cont => exact hq.elim⟩
/-- .. that may be called in an except suite, too -/
structure FnH (P : Program) (w : World) (K : PySem.W.Frag) (mg : Str → Option Value) (base : Heap) (k : Nat) (x : Str) (ps : List Str) (sp : Sp) : Prop where
  ok : FnN P w K mg base k (ga K x) (fdAt K (ga K x)) ps sp
  bd : Bnd (fdAt K (ga K x)) ps
  kp : PySem.W.keepIn K (.ref (ga K x)) = true
  at_ : mg x = some (.ref (ga K x))
section
variable {fa : List Fa} {fn : List DefD} {xl : XL} {P : Program} {w : World} {K : PySem.W.Frag} {mg : Str → Option Value} {base : Heap}
theorem Told.mkFn (T : Told fa fn xl K mg) (i j : Nat) {d : DefD} {x : Str} {N ps : List Str} {k : Nat} {sp : Sp} (hd : fn[i]? = some d) (hx : d.at_ = (x, none)) (h0 : d.dfl = []) (h1 : d.kwd = []) (hg : fa[j]? = some (.glo x)) (S : FnScope N ps d.scope)
    (bnd : ∀ (kV doc pm : Value) (an : Option Addr) (cdv ct : Value) (us : List Value), us.length = ps.length → bindArgs (PySem.W.fnOf d.name d.qual d.params d.body d.scope .none kV doc pm an cdv ct) ⟨us, []⟩ = pure (ps.zip us))
    (len : ∀ vs H Q E, sp vs H Q E → vs.length = ps.length)
    (body : ∀ (cdv : Value) (A : Around) (outer : List Env) (s : Shared) (H : Hp) (vs : List V) (Q : VK) (E : XK), Room k (A.deeper (envOfC d.qual d.scope s.heap.objs.size (ga K x) cdv)) → sp vs H Q E →
      ∃ t, PSs (cxOf (L2.CX P w) P w K mg base N d.qual d.scope (ga K x) cdv A outer s H E) d.body t ∧ t { nx := fun _ H' => Q .non H', rt := Q } (start N vs) H) : Fn P w K mg base (k + 1) x ps sp := by
  obtain ⟨fd, F⟩ := T.says.def_ i hd
  have e : fAd K d.at_ = ga K x := by rw [hx]; rfl
  have e0 : d.dvs K = [] := by unfold DefD.dvs; rw [h0]; rfl
  have e1 : d.kws K = [] := by unfold DefD.kws; rw [h1]; rfl
  rw [e, e0, e1] at F
  have ef := fdAt_of F
  subst ef
  exact ⟨F.ok S len body, F.bindsA bnd, F.kp, T.glo j hg⟩
theorem Told.mkFnH (T : Told fa fn xl K mg) (i j : Nat) {d : DefD} {x : Str} {N ps : List Str} {k : Nat} {sp : Sp} (hd : fn[i]? = some d) (hx : d.at_ = (x, none)) (h0 : d.dfl = []) (h1 : d.kwd = []) (hg : fa[j]? = some (.glo x)) (S : FnScope N ps d.scope)
    (bnd : ∀ (kV doc pm : Value) (an : Option Addr) (cdv ct : Value) (us : List Value), us.length = ps.length → bindArgs (PySem.W.fnOf d.name d.qual d.params d.body d.scope .none kV doc pm an cdv ct) ⟨us, []⟩ = pure (ps.zip us))
    (len : ∀ vs H Q E, sp vs H Q E → vs.length = ps.length)
    (body : ∀ (cdv : Value) (A : Around) (outer : List Env) (s : Shared) (H : Hp) (vs : List V) (Q : VK), RoomN k (A.deeper (envOfC d.qual d.scope s.heap.objs.size (ga K x) cdv)) → sp vs H Q E0 →
      ∃ t, PSs (cxN P w K mg base N d.qual d.scope (ga K x) cdv A outer s H) d.body t ∧ t { nx := fun _ H' => Q .non H', rt := Q } (start N vs) H) : FnH P w K mg base (k + 1) x ps sp := by
  obtain ⟨fd, F⟩ := T.says.def_ i hd
  have e : fAd K d.at_ = ga K x := by rw [hx]; rfl
  have e0 : d.dvs K = [] := by unfold DefD.dvs; rw [h0]; rfl
  have e1 : d.kws K = [] := by unfold DefD.kws; rw [h1]; rfl
  rw [e, e0, e1] at F
  have ef := fdAt_of F
  subst ef
  exact ⟨fn_ofN F S len body, F.bindsA bnd, F.kp, T.glo j hg⟩
end
section
variable {X : Cx} {k : Nat} {ps : List Str} {sp : Sp} {W : WX} {x : Str} {p pos : Pos} {e : Expr} {es : List Expr} {t : TA}
theorem pe_fn (tk : Takes X W) (F : Fn X.prog X.w X.K X.mg X.base k x ps sp) (hr : Room k X.A) (hg : Gl X x) (ha : PA X (e :: es) t) (hdb : (x == ("__debug__" : Str)) = false := by decide)
    (he : starEach (e :: es) X.env = (false, eval e X.env) :: starEach es X.env := by rfl) (hpl : (backTo pos (starEach es X.env)).any (·.1) = false := by rfl) : PE X (.Call (.Name x p) (e :: es) [] pos) (tCallW sp W t) := by
  exact pe_callW tk F.ok hr hg F.at_ F.kp F.bd.to ha hdb he hpl
theorem pe_fn0 (tk : Takes X W) (F : Fn X.prog X.w X.K X.mg X.base k x ps sp) (hr : Room k X.A) (hg : Gl X x) (hdb : (x == ("__debug__" : Str)) = false := by decide) : PE X (.Call (.Name x p) [] [] pos) (tCallW sp W tNil) := by
  exact pe_callW0 tk F.ok hr hg F.at_ F.kp F.bd.to hdb
theorem pe_fnH (F : FnH X.prog X.w X.K X.mg X.base k x ps sp) (hr : RoomN k X.A) (hg : Gl X x) (ha : PA X (e :: es) t) (hdb : (x == ("__debug__" : Str)) = false := by decide)
    (he : starEach (e :: es) X.env = (false, eval e X.env) :: starEach es X.env := by rfl) (hpl : (backTo pos (starEach es X.env)).any (·.1) = false := by rfl) : PE X (.Call (.Name x p) (e :: es) [] pos) (tCallN sp t) := by
  exact pe_callN F.ok hr hg F.at_ F.kp F.bd.to ha hdb he hpl
theorem call_gLen : CallR X (.builtin "len") (L2.rLen X.K) := call_len
theorem call_lenK {K : PySem.W.Frag} (hK : X.K = K) : CallR X (.builtin "len") (L2.rLen K) := hK ▸ call_len
theorem op_eqK {K : PySem.W.Frag} (hK : X.K = K) (hu : X.A.units + 64 < cLine) : OpR X (compareOp .Eq) (gEq K) := hK ▸ op_gEq hu
theorem op_neK {K : PySem.W.Frag} (hK : X.K = K) (hu : X.A.units + 64 < cLine) : OpR X (compareOp .NotEq) (gNe K) := hK ▸ op_gNe hu
theorem ix_seqK {K : PySem.W.Frag} (hK : X.K = K) : IxR X (rIx K) := hK ▸ ix_seq
theorem call_isEK {K : PySem.W.Frag} (hK : X.K = K) : CallR X (.builtin "isinstance") (gIsE K) := hK ▸ call_gIsE
theorem sl_listK {K : PySem.W.Frag} (hK : X.K = K) : SlR X (rSlL K) := hK ▸ sl_list
theorem pi_listK {K : PySem.W.Frag} {tg l : Expr} {tl : TE} (hK : X.K = K) (h : PE X l tl) : PI X tg l (iList K tl) := hK ▸ pi_list h
def rListG (K : PySem.W.Frag) : List V → Hp → VK → Prop := fun xs H Q => ∃ p ys, xs = [.ref p] ∧ (SqL K H p ys ∨ SqT K H p ys) ∧ ∀ l, H l = none → Q (.ref l) (upd H l (.lst ys))
theorem call_listK {K : PySem.W.Frag} (hK : X.K = K) : CallR X (.type "list") (rListG K) := hK ▸ call_list_of
theorem pe_clsK {K : PySem.W.Frag} (hK : X.K = K) (h : X.mg x = some (.ref (ga K x))) (hg : Gl X x) (hdb : (x == ("__debug__" : Str)) = false := by decide) : PE X (.Name x pos) (tC (.ref (ga K x))) := pe_glob hg h rfl hdb
/-- a constant of the module -/
theorem pe_num {n : Int} (h : ∃ t, X.mg x = some (.int n t)) (hg : Gl X x) (hdb : (x == ("__debug__" : Str)) = false := by decide) : PE X (.Name x pos) (tC (.int n)) := by
  obtain ⟨t, e⟩ := h
  exact pe_glob hg e ⟨t, rfl⟩ hdb
theorem pe_txt {z : Str} (h : ∃ t, X.mg x = some (.str z t)) (hg : Gl X x) (hdb : (x == ("__debug__" : Str)) = false := by decide) : PE X (.Name x pos) (tC (.str z)) := by
  obtain ⟨t, e⟩ := h
  exact pe_glob hg e ⟨t, rfl⟩ hdb
/-- a class of the module as a value; a built-in class -/
theorem pe_cls (h : X.mg x = some (.ref (ga X.K x))) (hg : Gl X x) (hdb : (x == ("__debug__" : Str)) = false := by decide) : PE X (.Name x pos) (tC (.ref (ga X.K x))) := pe_glob hg h rfl hdb
theorem pe_ty {T : String} (hm : X.mg x = none) (hv : bootBuiltins x = some (.type T)) (hg : Gl X x) (hn : x ≠ "__name__" := by decide) (hdb : (x == ("__debug__" : Str)) = false := by decide) : PE X (.Name x pos) (tC (.ty T)) := pe_bltn hg hm hv rfl hn hdb
/-- raise C('..') -/
def tRaise (C : Addr) (W : WX) : TS := fun _ σ H => W (.ref C) none σ H
theorem ps_raiseK {K : PySem.W.Frag} {m : Str} {j : Nat} {p2 pos2 : Pos} (hK : X.K = K) (hc : X.calm = true) (tk : Takes X W) (h : (Fa.exc x).ok K = true) (hm : X.mg x = some (.ref (ga K x))) (hg : Gl X x) (hdb : (x == ("__debug__" : Str)) = false := by decide) :
    PS X (.Raise (some (.Call (.Name x p) [.Constant (.str m) j p2] [] pos)) none pos2) (tRaise (ga K x) W) := by
  subst hK
  obtain ⟨h1, h2, h3, h4⟩ := He.exc_ok h
  exact ps_raise hc tk (pmk_own PySem.F.excBase_ValueError h1 hm h2 (raises_own h3 h4) hg hdb)
theorem ps_raiseW {m : Str} {j : Nat} {p2 pos2 : Pos} (hc : X.calm = true) (tk : Takes X W) (h : (Fa.exc x).ok X.K = true) (hm : X.mg x = some (.ref (ga X.K x))) (hg : Gl X x) (hdb : (x == ("__debug__" : Str)) = false := by decide) :
    PS X (.Raise (some (.Call (.Name x p) [.Constant (.str m) j p2] [] pos)) none pos2) (tRaise (ga X.K x) W) := by
  obtain ⟨h1, h2, h3, h4⟩ := He.exc_ok h
  exact ps_raise hc tk (pmk_own PySem.F.excBase_ValueError h1 hm h2 (raises_own h3 h4) hg hdb)
end

/-! ## readings, step by step -/
section
variable {σ : L2.St} {H : Hp} {Q : VK} {QT : Bool → Hp → Prop} {QA : List V → Hp → Prop} {D : Ends} {v x y z : V} {i : Nat} {o : Option V} {ta tb te tc : TE} {t u c : TT} {ts us : TS} {as : TA} {r r' : R2} {g : TG} {b : Bool}
theorem x_K {CX : CXT} {P : Program} {w : World} {K : PySem.W.Frag} {mg : Str → Option Value} {base : Heap} {N : List Str} {qual : Str} {scope : Scope} {f : Addr} {cd : Value} {A : Around} {outer : List Env} {s : Shared} {E : XK} : (cxOf CX P w K mg base N qual scope f cd A outer s H E).K = K := rfl
theorem x_var0 : tVar 0 (some v :: σ) H Q = Q v H := propext ⟨fun ⟨_, e, q⟩ => by cases e; exact q, fun q => ⟨v, rfl, q⟩⟩
theorem x_varS : tVar (i + 1) (o :: σ) H Q = tVar i σ H Q := rfl
theorem x_c : tC v σ H Q = Q v H := rfl
theorem x_op : tOp r ta tb σ H Q = ta σ H fun x H1 => tb σ H1 fun y H2 => r x y H2 Q := rfl
theorem x_un {r : V → Hp → VK → Prop} : tUn r ta σ H Q = ta σ H fun x H1 => r x H1 Q := rfl
theorem x_cb {r : List V → Hp → VK → Prop} : tCB r as σ H Q = as σ H fun vs H1 => r vs H1 Q := rfl
theorem x_nil : tNil σ H QA = QA [] H := rfl
theorem x_cons : tCons te as σ H QA = te σ H fun x H1 => as σ H1 fun xs H2 => QA (x :: xs) H2 := rfl
theorem x_test : tTest te σ H QT = te σ H fun x H1 => ∃ k, x = .bl k ∧ QT k H1 := rfl
theorem x_b : tB te σ H QT = te σ H fun x H1 => ∃ k, x = .bl k ∧ QT k H1 := rfl
theorem x_ex {P : Bool → Prop} : (∃ k, V.bl b = .bl k ∧ P k) = P b := propext ⟨fun ⟨_, e, q⟩ => by cases e; exact q, fun q => ⟨b, rfl, q⟩⟩
theorem x_and : tAnd t u σ H QT = t σ H fun c H1 => if c = true then u σ H1 QT else QT false H1 := rfl
theorem x_or : tOr t u σ H QT = t σ H fun c H1 => if c = true then QT true H1 else u σ H1 QT := rfl
theorem x_not : tNot t σ H QT = t σ H fun c H1 => QT (!c) H1 := rfl
theorem x_andV : tAndV ta tb σ H Q = ta σ H fun x H1 => ∃ c, x = .bl c ∧ if c = true then tb σ H1 Q else Q (.bl false) H1 := rfl
theorem x_orV : tOrV ta tb σ H Q = ta σ H fun x H1 => ∃ c, x = .bl c ∧ if c = true then Q (.bl true) H1 else tb σ H1 Q := rfl
theorem x_notV : tNotV ta σ H Q = ta σ H fun x H1 => ∃ c, x = .bl c ∧ Q (.bl (!c)) H1 := rfl
theorem x_tif : tIf t ta tb σ H Q = t σ H fun c H1 => if c = true then ta σ H1 Q else tb σ H1 Q := rfl
theorem x_chain : tChain r r' ta tb tc σ H Q = ta σ H fun x H1 => tb σ H1 fun y H2 => r x y H2 fun z H3 => ∃ k, z = .bl k ∧ (if k = true then tc σ H3 fun u H4 => r' y u H4 Q else Q (.bl false) H3) := rfl
theorem x_menu : tMenu as te σ H Q = as σ H fun xs H1 => xs.length ≤ sizeLine ∧ te σ H1 fun y H2 => ∃ i v, y = .int i ∧ atI xs i = some v ∧ Q v H2 := rfl
theorem x_menuI {xs : List V} {n : Int} {P : V → Prop} : (∃ i v, V.int n = .int i ∧ atI xs i = some v ∧ P v) = ∃ v, atI xs n = some v ∧ P v := propext ⟨fun ⟨_, w, e, q⟩ => by cases e; exact ⟨w, q⟩, fun ⟨w, q⟩ => ⟨n, w, rfl, q⟩⟩
theorem x_lst : tLst as σ H Q = as σ H fun xs H1 => xs.length ≤ sizeLine ∧ ∀ p, H1 p = none → Q (.ref p) (upd H1 p (.lst xs)) := rfl
theorem x_tup : tTup as σ H Q = as σ H fun xs H1 => xs.length ≤ sizeLine ∧ ∀ p, H1 p = none → Q (.ref p) (upd H1 p (.tup xs)) := rfl
theorem x_dnew : tDNewK σ H Q = ∀ p, H p = none → Q (.ref p) (upd H p (.dK [])) := rfl
theorem x_callW {sp : Sp} {W : WX} : tCallW sp W as σ H Q = as σ H fun vs H1 => sp vs H1 Q fun c d H2 => W c d σ H2 := rfl
theorem x_callN {sp : Sp} : tCallN sp as σ H Q = as σ H fun vs H1 => sp vs H1 Q E0 := rfl
theorem x_seq : tSeq ts us D σ H = ts { D with nx := us D } σ H := rfl
theorem x_next : tNext D σ H = D.nx σ H := rfl
theorem x_ret : tRet te D σ H = te σ H D.rt := rfl
theorem x_retN : tRetN D σ H = D.rt .non H := rfl
theorem x_drop : tDrop te D σ H = te σ H fun _ H1 => D.nx σ H1 := rfl
theorem x_ifS : tIfS c ts us D σ H = c σ H fun b H1 => if b = true then ts D σ H1 else us D σ H1 := rfl
theorem x_asg : tAsg te g D σ H = te σ H fun x H1 => g x σ H1 D.nx := rfl
theorem x_name {N : L2.St → Hp → Prop} : gName i v σ H N = N (σ.set i (some v)) H := rfl
theorem x_raise {C : Addr} {W : WX} : tRaise C W D σ H = W (.ref C) none σ H := rfl
theorem x_start {N : List Str} {n : Str} {vs : List V} : start (n :: N) (v :: vs) = some v :: start N vs := by
  unfold L2.start
  simp only [List.map_cons, List.length_cons, List.cons_append, Nat.add_sub_add_right]
theorem x_start0 {N : List Str} : start N [] = List.replicate N.length none := by
  unfold L2.start
  simp
theorem q_str {a b : Str} (q : Q (.str a) H) (e : a = b) : Q (.str b) H := e ▸ q
theorem r_i0 {g : Int → Int → V} {a b : Int} : rI0 g (.int a) (.int b) H Q = Q (g a b) H := propext ⟨fun ⟨_, _, e, e', q⟩ => by cases e; cases e'; exact q, fun q => ⟨a, b, rfl, rfl, q⟩⟩
theorem r_i {C : Int → Int → Prop} {g : Int → Int → V} {a b : Int} : rI C g (.int a) (.int b) H Q = (C a b ∧ Q (g a b) H) := propext ⟨fun ⟨_, _, e, e', q⟩ => by cases e; cases e'; exact q, fun q => ⟨a, b, rfl, rfl, q⟩⟩
theorem r_u {g : Int → V} {a : Int} : rU g (.int a) H Q = Q (g a) H := propext ⟨fun ⟨_, e, q⟩ => by cases e; exact q, fun q => ⟨a, rfl, q⟩⟩
theorem r_addI {a b : Int} : gAdd (.int a) (.int b) H Q = Q (.int (a + b)) H := rfl
theorem r_addS {a b : Str} : gAdd (.str a) (.str b) H Q = (a.length + b.length ≤ sizeLine ∧ Q (.str (a ++ b)) H) := rfl
theorem r_mulI {a b : Int} : gMul (.int a) (.int b) H Q = (((-(2 ^ 64) < a ∧ a < 2 ^ 64) ∨ (-(2 ^ 64) < b ∧ b < 2 ^ 64)) ∧ Q (.int (a * b)) H) := rfl
theorem r_mulS {a : Str} {b : Int} : gMul (.str a) (.int b) H Q = ((b = 0 ∨ b = 1) ∧ Q (.str (if b = 1 then a else Str.empty)) H) := rfl
theorem r_eqI {K : PySem.W.Frag} {a b : Int} : gEq K (.int a) (.int b) H Q = Q (.bl (decide (a = b))) H := by
  show (if true = true then Q (.bl (a == b)) H else rEqD K (.int a) (.int b) H Q) = _
  rw [if_pos (rfl : true = true), Bool.beq_eq_decide_eq]
theorem r_neI {K : PySem.W.Frag} {a b : Int} : gNe K (.int a) (.int b) H Q = Q (.bl (!decide (a = b))) H := by
  show (if true = true then Q (.bl (!(a == b))) H else rNeD K (.int a) (.int b) H Q) = _
  rw [if_pos (rfl : true = true), Bool.beq_eq_decide_eq]
theorem r_eqF {K : PySem.W.Frag} (hx : flatV x = true) (hy : flatV y = true) : gEq K x y H Q = Q (.bl (eqV x y)) H := by unfold gEq; rw [hx, hy]; rfl
theorem r_neF {K : PySem.W.Frag} (hx : flatV x = true) (hy : flatV y = true) : gNe K x y H Q = Q (.bl (!eqV x y)) H := by unfold gNe; rw [hx, hy]; rfl
theorem r_eqS {K : PySem.W.Frag} {a b : Str} : gEq K (.str a) (.str b) H Q = Q (.bl (decide (a = b))) H := by
  show (if true = true then Q (.bl (a == b)) H else rEqD K (.str a) (.str b) H Q) = _
  rw [if_pos (rfl : true = true), Bool.beq_eq_decide_eq]
theorem r_neS {K : PySem.W.Frag} {a b : Str} : gNe K (.str a) (.str b) H Q = Q (.bl (!decide (a = b))) H := by
  show (if true = true then Q (.bl (!(a == b))) H else rNeD K (.str a) (.str b) H Q) = _
  rw [if_pos (rfl : true = true), Bool.beq_eq_decide_eq]
theorem n_ten : Int.natAbs 10 < 18446744073709551616 := by decide
theorem c_div {i j : Int} : CDiv i j = (0 < j ∧ j < 1073741824) := rfl
theorem c_pow {i j : Int} : CPow i j = (0 ≤ j ∧ j ≤ 1000000 ∧ i.natAbs < 2 ^ 64) := rfl
theorem r_absI {a : Int} : gAbs [.int a] H Q = Q (.int (a.natAbs : Int)) H := rfl
theorem r_intI {a : Int} : gInt [.int a] H Q = Q (.int a) H := rfl
theorem r_intB {k : Bool} : gInt [.bl k] H Q = Q (.int (if k then 1 else 0)) H := rfl
theorem r_lenL {K : PySem.W.Frag} {a : Addr} {xs : List V} (h : H a = some (.lst xs)) (q : Q (.int (xs.length : Int)) H) : L2.rLen K [.ref a] H Q := ⟨_, _, rfl, .inl ⟨_, SqL.of h, rfl⟩, q⟩
end
end G
namespace G
open PySem PySem.Spec PyProof.Rows L2
open He (ga ma fAd Fa DefD SaysD)
/-! ## classes of the module: fields, methods, instances -/
section
variable {fa : List Fa} {fn : List DefD} {xl : XL} {K : PySem.W.Frag} {mg : Str → Option Value}
theorem Told.cls (T : Told fa fn xl K mg) (i : Nat) {x : Str} (h : fa[i]? = some (.cls x) := by rfl) : Cls K (ga K x) := He.cls_ok (T.says.fact i h)
theorem Told.noat (T : Told fa fn xl K mg) (i : Nat) {x f : Str} (h : fa[i]? = some (.noat x f) := by rfl) : NoAttr K (ga K x) f := He.noat_ok (T.says.fact i h)
end
/-- x holds v in its field f, an instance of the class at C -/
def FldIs (C : Addr) (f : Str) (x : V) (H : Hp) (v : V) : Prop := ∃ a dx fs, x = .ref a ∧ H a = some (.ins C dx fs) ∧ fs.lookup f = some v
theorem fldIs {C : Addr} {f : Str} {a dx : Addr} {H : Hp} {fs : List (Str × V)} {v : V} (h : H a = some (.ins C dx fs)) (e : fs.lookup f = some v := by rfl) : FldIs C f (.ref a) H v := ⟨a, dx, fs, rfl, h, e⟩
def gFld (C : Addr) (ta : TE) (f : Str) : TE := fun σ H Q => ta σ H fun x H1 => ∃ v, FldIs C f x H1 v ∧ Q v H1
def gSetF (C : Addr) (ta tv : TE) (f : Str) : TS := fun D σ H => tv σ H fun y H1 => ta σ H1 fun x H2 => ∃ a dx fs, x = .ref a ∧ H2 a = some (.ins C dx fs) ∧ fs.length < 1000 ∧ D.nx σ (upd H2 a (.ins C dx (putF f y fs)))
section
variable {X : Cx} {C : Addr} {o e value : Expr} {f : Str} {pos pos' : Pos} {ta tv : TE}
theorem pe_fldC (c : Cls X.K C) (n : NoAttr X.K C f) (he : PE X e ta) (hb : attributeBase e f X.env (eval e X.env) = eval e X.env := by rfl) : PE X (.Attribute e f pos) (gFld C ta f) := by
  refine ⟨fun pins s σ H Q I h => attr_of hb (thn (he.run pins s σ H _ I h) fun u s1 hh => ?_)⟩
  obtain ⟨x, H1, I1, rx, v, ⟨a, dx, fs, ex, ea, l⟩, q⟩ := hh
  subst ex
  obtain rfl : u = Value.ref a := rx
  exact getattr_ok I1 ea c n l fun _ _ I2 ru => ⟨v, H1, I2, ru, q⟩
theorem ps_fldC (c : Cls X.K C) (n : NoAttr X.K C f) (ha : PE X o ta) (hv : PE X value tv) (hs : swapsWith value (some (.Attribute o f pos')) pos.line X.env = pure false := by rfl) : PS X (.Assign [.Attribute o f pos'] value pos) (gSetF C ta tv f) := by
  refine ⟨fun pins s σ H D I h => plainObj_wpAny_Assign_Attribute (thn (hv.run pins s σ H _ I h) fun u s1 hh => ?_) hs⟩
  obtain ⟨y, H1, I1, ry, q⟩ := hh
  refine thn (ha.run pins s1 σ H1 _ I1 q) fun ov s2 h2 => ?_
  obtain ⟨x, H2, I2, rx, a, dx, fs, ex, ea, l, q2⟩ := h2
  subst ex
  obtain rfl : ov = Value.ref a := rx
  exact setattr_ok I2 ea c n l ry fun _ I3 => ⟨σ, _, I3, q2⟩
end
/-- a method of a class of the module: its promise -/
structure Mt (P : Program) (w : World) (K : PySem.W.Frag) (mg : Str → Option Value) (base : Heap) (k : Nat) (C m : Str) (ps : List Str) (sp : Sp) : Prop where
  ok : FnOk P w K mg base (L2.CX P w) k (ma K (ga K C) m) (fdAt K (ma K (ga K C) m)) ps sp
  bd : Bnd (fdAt K (ma K (ga K C) m)) ps
  me : Meth K (ga K C) m (ma K (ga K C) m)
  cl : Cls K (ga K C)
/-- the __init__ of a class -/
structure Mi (P : Program) (w : World) (K : PySem.W.Frag) (mg : Str → Option Value) (base : Heap) (k : Nat) (C : Str) (ps : List Str) (sp : Sp) : Prop where
  ok : FnOk P w K mg base (L2.CX P w) k (ma K (ga K C) "__init__") (fdAt K (ma K (ga K C) "__init__")) ps sp
  bd : Bnd (fdAt K (ma K (ga K C) "__init__")) ps
  mkr : Mk K (ga K C) (ma K (ga K C) "__init__")
  at_ : mg C = some (.ref (ga K C))
section
variable {fa : List Fa} {fn : List DefD} {xl : XL} {P : Program} {w : World} {K : PySem.W.Frag} {mg : Str → Option Value} {base : Heap}
theorem Told.mkAny (T : Told fa fn xl K mg) (i : Nat) {d : DefD} {f : Addr} {N ps : List Str} {k : Nat} {sp : Sp} (hd : fn[i]? = some d) (hx : fAd K d.at_ = f) (h0 : d.dfl = []) (h1 : d.kwd = []) (S : FnScope N ps d.scope)
    (bnd : ∀ (kV doc pm : Value) (an : Option Addr) (cdv ct : Value) (us : List Value), us.length = ps.length → bindArgs (PySem.W.fnOf d.name d.qual d.params d.body d.scope .none kV doc pm an cdv ct) ⟨us, []⟩ = pure (ps.zip us))
    (len : ∀ vs H Q E, sp vs H Q E → vs.length = ps.length)
    (body : ∀ (cdv : Value) (A : Around) (outer : List Env) (s : Shared) (H : Hp) (vs : List V) (Q : VK) (E : XK), Room k (A.deeper (envOfC d.qual d.scope s.heap.objs.size f cdv)) → sp vs H Q E →
      ∃ t, PSs (cxOf (L2.CX P w) P w K mg base N d.qual d.scope f cdv A outer s H E) d.body t ∧ t { nx := fun _ H' => Q .non H', rt := Q } (start N vs) H) : FnOk P w K mg base (L2.CX P w) (k + 1) f (fdAt K f) ps sp ∧ Bnd (fdAt K f) ps := by
  obtain ⟨fd, F⟩ := T.says.def_ i hd
  have e0 : d.dvs K = [] := by unfold DefD.dvs; rw [h0]; rfl
  have e1 : d.kws K = [] := by unfold DefD.kws; rw [h1]; rfl
  rw [hx, e0, e1] at F
  have ef := fdAt_of F
  subst ef
  exact ⟨F.ok S len body, F.bindsA bnd⟩
theorem Told.mkMt (T : Told fa fn xl K mg) (i j l : Nat) {d : DefD} {C m : Str} {N ps : List Str} {k : Nat} {sp : Sp} (hd : fn[i]? = some d) (hx : d.at_ = (C, some m)) (h0 : d.dfl = []) (h1 : d.kwd = []) (hg : fa[j]? = some (.meth C m)) (hc : fa[l]? = some (.cls C)) (S : FnScope N ps d.scope)
    (bnd : ∀ (kV doc pm : Value) (an : Option Addr) (cdv ct : Value) (us : List Value), us.length = ps.length → bindArgs (PySem.W.fnOf d.name d.qual d.params d.body d.scope .none kV doc pm an cdv ct) ⟨us, []⟩ = pure (ps.zip us))
    (len : ∀ vs H Q E, sp vs H Q E → vs.length = ps.length)
    (body : ∀ (cdv : Value) (A : Around) (outer : List Env) (s : Shared) (H : Hp) (vs : List V) (Q : VK) (E : XK), Room k (A.deeper (envOfC d.qual d.scope s.heap.objs.size (ma K (ga K C) m) cdv)) → sp vs H Q E →
      ∃ t, PSs (cxOf (L2.CX P w) P w K mg base N d.qual d.scope (ma K (ga K C) m) cdv A outer s H E) d.body t ∧ t { nx := fun _ H' => Q .non H', rt := Q } (start N vs) H) : Mt P w K mg base (k + 1) C m ps sp := by
  obtain ⟨a, b⟩ := T.mkAny (P := P) (w := w) (base := base) i hd (by rw [hx]; rfl) h0 h1 S bnd len body
  exact ⟨a, b, He.meth_ok (T.says.fact j hg), T.cls l hc⟩
theorem Told.mkMi (T : Told fa fn xl K mg) (i j l : Nat) {d : DefD} {C : Str} {N ps : List Str} {k : Nat} {sp : Sp} (hd : fn[i]? = some d) (hx : d.at_ = (C, some ("__init__" : Str))) (h0 : d.dfl = []) (h1 : d.kwd = []) (hg : fa[j]? = some (.mkr C)) (hc : fa[l]? = some (.glo C)) (S : FnScope N ps d.scope)
    (bnd : ∀ (kV doc pm : Value) (an : Option Addr) (cdv ct : Value) (us : List Value), us.length = ps.length → bindArgs (PySem.W.fnOf d.name d.qual d.params d.body d.scope .none kV doc pm an cdv ct) ⟨us, []⟩ = pure (ps.zip us))
    (len : ∀ vs H Q E, sp vs H Q E → vs.length = ps.length)
    (body : ∀ (cdv : Value) (A : Around) (outer : List Env) (s : Shared) (H : Hp) (vs : List V) (Q : VK) (E : XK), Room k (A.deeper (envOfC d.qual d.scope s.heap.objs.size (ma K (ga K C) "__init__") cdv)) → sp vs H Q E →
      ∃ t, PSs (cxOf (L2.CX P w) P w K mg base N d.qual d.scope (ma K (ga K C) "__init__") cdv A outer s H E) d.body t ∧ t { nx := fun _ H' => Q .non H', rt := Q } (start N vs) H) : Mi P w K mg base (k + 1) C ps sp := by
  obtain ⟨a, b⟩ := T.mkAny (P := P) (w := w) (base := base) i hd (by rw [hx]; rfl) h0 h1 S bnd len body
  exact ⟨a, b, He.mkr_ok (T.says.fact j hg), T.glo l hc⟩
end
/-- x is an instance of the class at C, its attributes none of the name m -/
def Recv (C : Addr) (m : Str) (x : V) (H : Hp) : Prop := ∃ a dx fs, x = .ref a ∧ H a = some (.ins C dx fs) ∧ fs.lookup m = none
theorem recv {C : Addr} {m : Str} {a dx : Addr} {H : Hp} {fs : List (Str × V)} (h : H a = some (.ins C dx fs)) (e : fs.lookup m = none := by rfl) : Recv C m (.ref a) H := ⟨a, dx, fs, rfl, h, e⟩
section
variable {X : Cx} {k : Nat} {C m : Str} {ps : List Str} {sp : Sp} {W : WX} {p pos apos : Pos} {o e : Expr} {es : List Expr} {ta : TE} {t : TA}
def gMeth (C : Addr) (m : Str) (sp : Sp) (W : WX) (ta : TE) (t : TA) : TE := fun σ H Q => ta σ H fun x H1 => Recv C m x H1 ∧ t σ H1 fun vs H2 => sp (x :: vs) H2 Q fun c d H3 => W c d σ H3
theorem pe_mt {pl : Sem Bool} {K : PySem.W.Frag} (hK : X.K = K) (tk : Takes X W) (he : PE X o ta) (F : Mt X.prog X.w K X.mg X.base k C m ps sp) (hr : Room k X.A) (ha : PA X (e :: es) t)
    (hst : starEach (e :: es) X.env = (false, eval e X.env) :: starEach es X.env := by rfl) (hpl : (backTo pos (starEach es X.env)).any (·.1) = false := by rfl)
    (ht : eval (.Call (.Attribute o m apos) (e :: es) [] pos) X.env = (do
      let z ← eval o X.env
      standAt apos.atName
      let (g, one) ← holding [z] (getMethod z m pl)
      callWith pos g one (backTo pos (starEach (e :: es) X.env)) (backToKw pos (keywordEach [] X.env))) := by rfl) :
    PE X (.Call (.Attribute o m apos) (e :: es) [] pos) (gMeth (ga K C) m sp W ta t) := by
  subst hK
  refine ⟨fun pins s σ H Q I h => ?_⟩
  refine PySem.W.methodCall_KW (pl := pl) (thn (he.run pins s σ H _ I h) fun u s1 hh => ?_) ht
  obtain ⟨y, H1, I1, ry, ⟨a, dx, fs, ey, ea, l⟩, q⟩ := hh
  subst ey
  obtain rfl : u = Value.ref a := ry
  refine getmeth_ok I1 ea F.cl F.me l ?_
  refine PySem.W.callWith_K (first := [.ref a]) (h₀ := X.base) I.ok.mod.kin F.me.kp (thn (ha.run pos pins s1 σ H1 _ I1 q) fun us s2 h2 => ?_) hst hpl
  obtain ⟨vs, H2, I2, r, q2⟩ := h2
  exact ⟨I2.kIn, run_fnS (us := .ref a :: us) (vs := .ref a :: vs) (E := WE W) F.ok hr F.bd.to (passAt tk σ) I2 (.cons rfl r) q2⟩
theorem pe_mt0 {pl : Sem Bool} {K : PySem.W.Frag} (hK : X.K = K) (tk : Takes X W) (he : PE X o ta) (F : Mt X.prog X.w K X.mg X.base k C m ps sp) (hr : Room k X.A)
    (ht : eval (.Call (.Attribute o m apos) [] [] pos) X.env = (do
      let z ← eval o X.env
      standAt apos.atName
      let (g, one) ← holding [z] (getMethod z m pl)
      callWith pos g one (backTo pos (starEach [] X.env)) (backToKw pos (keywordEach [] X.env))) := by rfl) :
    PE X (.Call (.Attribute o m apos) [] [] pos) (gMeth (ga K C) m sp W ta tNil) := by
  subst hK
  refine ⟨fun pins s σ H Q I h => ?_⟩
  refine PySem.W.methodCall_KW (pl := pl) (thn (he.run pins s σ H _ I h) fun u s1 hh => ?_) ht
  obtain ⟨y, H1, I1, ry, ⟨a, dx, fs, ey, ea, l⟩, q⟩ := hh
  subst ey
  obtain rfl : u = Value.ref a := ry
  refine getmeth_ok I1 ea F.cl F.me l ?_
  exact PySem.W.callWith_K0 (first := [.ref a]) I1.kIn F.me.kp (run_fnS (us := [.ref a]) (vs := [.ref a]) (E := WE W) F.ok hr F.bd.to (passAt tk σ) I1 (.cons rfl .nil) q)
theorem pe_mk {K : PySem.W.Frag} (hK : X.K = K) (tk : Takes X W) (F : Mi X.prog X.w K X.mg X.base k C ps sp) (hr : Room (k + 1) X.A) (hg : Gl X C) (ha : PA X (e :: es) t) (hdb : (C == ("__debug__" : Str)) = false := by decide)
    (he : starEach (e :: es) X.env = (false, eval e X.env) :: starEach es X.env := by rfl) (hpl : (backTo pos (starEach es X.env)).any (·.1) = false := by rfl) : PE X (.Call (.Name C p) (e :: es) [] pos) (tMakeW (ga K C) sp W t) := by
  subst hK
  exact pe_makeW tk F.mkr F.ok hr hg F.at_ F.bd.to ha hdb he hpl
theorem pe_mk0 {K : PySem.W.Frag} (hK : X.K = K) (tk : Takes X W) (F : Mi X.prog X.w K X.mg X.base k C ps sp) (hr : Room (k + 1) X.A) (hg : Gl X C) (hdb : (C == ("__debug__" : Str)) = false := by decide) : PE X (.Call (.Name C p) [] [] pos) (tMakeW (ga K C) sp W tNil) := by
  subst hK
  exact pe_makeW0 tk F.mkr F.ok hr hg F.at_ F.bd.to hdb
/-- least, greatest of two -/
def gMin : List V → Hp → VK → Prop
  | [.int i, .int j], H, Q => Q (.int (min i j)) H
  | _, _, _ => False
def gMax : List V → Hp → VK → Prop
  | [.int i, .int j], H, Q => Q (.int (max i j)) H
  | _, _, _ => False
theorem call_gMin (hc : X.calm = true) : CallR X (.builtin "min") gMin := by
  intro pins s σ H xs us Q I r h
  unfold gMin at h
  split at h
  · rename_i i j
    refine call_min2 hc pins s σ _ _ us Q I r ⟨i, j, rfl, ?_⟩
    have e : (if j < i then j else i) = min i j := by split <;> omega
    rw [e]
    exact h
  · exact h.elim
theorem call_gMax (hc : X.calm = true) : CallR X (.builtin "max") gMax := by
  intro pins s σ H xs us Q I r h
  unfold gMax at h
  split at h
  · rename_i i j
    refine call_max2 hc pins s σ _ _ us Q I r ⟨i, j, rfl, ?_⟩
    have e : (if j > i then j else i) = max i j := by split <;> omega
    rw [e]
    exact h
  · exact h.elim
end
section
variable {σ : L2.St} {H : Hp} {Q : VK} {D : Ends} {C : Addr} {f m : Str} {ta tv : TE} {as : TA} {sp : Sp} {W : WX} {a b : Int} {y x i : V} {S : TSet}
theorem x_fld : gFld C ta f σ H Q = ta σ H fun x H1 => ∃ v, FldIs C f x H1 v ∧ Q v H1 := rfl
theorem x_setF : gSetF C ta tv f D σ H = tv σ H fun y H1 => ta σ H1 fun x H2 => ∃ a dx fs, x = .ref a ∧ H2 a = some (.ins C dx fs) ∧ fs.length < 1000 ∧ D.nx σ (upd H2 a (.ins C dx (putF f y fs))) := rfl
theorem x_meth : gMeth C m sp W ta as σ H Q = ta σ H fun x H1 => Recv C m x H1 ∧ as σ H1 fun vs H2 => sp (x :: vs) H2 Q fun c d H3 => W c d σ H3 := rfl
theorem x_make : tMakeW C sp W as σ H Q = as σ H fun vs H1 => ∀ x dx, H1 x = none → H1 dx = none → dx ≠ x → sp (.ref x :: vs) (upd (upd H1 dx (.own x)) x (.ins C dx [])) (fun v H2 => v = .non ∧ Q (.ref x) H2) fun c d H3 => W c d σ H3 := rfl
theorem x_sub {to ti : TE} {N : L2.St → Hp → Prop} : gSub to ti S y σ H N = to σ H fun o H1 => ti σ H1 fun i H2 => S o i y H2 fun H3 => N σ H3 := rfl
theorem r_min : gMin [.int a, .int b] H Q = Q (.int (min a b)) H := rfl
theorem r_max : gMax [.int a, .int b] H Q = Q (.int (max a b)) H := rfl
/-- a store to a list at i -/
theorem r_setL {p : Addr} {xs : List V} {k : Int} {N : Hp → Prop} (h : H p = some (.lst xs)) (h0 : 0 ≤ k) (h1 : k < xs.length) (q : N (upd H p (.lst (xs.set k.toNat y)))) : rSetL (.ref p) (.int k) y H N :=
  ⟨p, xs, k, k.toNat, rfl, rfl, h, by unfold ixN; rw [if_pos h0, if_pos h1], q⟩
end
end G
namespace G
open PySem PySem.Spec PyProof.Rows L2
/-! ## comprehensions whose parts leave the heap as it is -/
section
variable {σ : L2.St} {vs : List Nat} {H1 : Hp} {D : Addr} {Qd : Hp → Prop} {te : TE} {tt : TT} {k : Nat} {f : Nat → V} {K : PySem.W.Frag} {a : Addr} {xs : List V}
theorem tYes_on {σ2 : L2.St} {H : Hp} {A B : Hp → Prop} (h : A H) : tYes σ2 H fun b H3 => if b = true then A H3 else B H3 := by
  show (if true = true then A H else B H)
  rw [if_pos (rfl : true = true)]
  exact h
/-- [e for x in range(..)] -/
theorem lc_mapR {lo : Int} {n : Nat} (f : Nat → V) (hw : ∀ v, wipe ((wipe σ vs).set k (some v)) vs = wipe σ vs) (hn : n ≤ sizeLine)
    (he : ∀ i, i < n → ∀ acc (Q : VK), Q (f i) (upd H1 D (.lst acc)) → te ((wipe σ vs).set k (some (.int (lo + i)))) (upd H1 D (.lst acc)) Q) (hd : Qd (upd H1 D (.lst ((List.range n).map f)))) :
    ∃ W : Nat → Nat → Hp → Prop, (∃ m, W 0 m (upd H1 D (.lst []))) ∧ ∀ i m H, W i m H →
      ((Itr lo n).stop i H ∧ Qd H) ∨ ((Itr lo n).go i H ∧ ∃ Nx : Hp → Prop, (∀ H', Nx H' → ∃ m', m' < m ∧ W (i + 1) m' H') ∧ ∀ x H', (Itr lo n).yld i H x H' → gName k x (wipe σ vs) H' fun σ2 H2 => wipe σ2 vs = wipe σ vs ∧ tYes σ2 H2 fun b H3 =>
        if b = true then te σ2 H3 fun y H4 => ∃ acc, H4 D = some (.lst acc) ∧ acc.length < sizeLine ∧ Nx (upd H4 D (.lst (acc ++ [y]))) else Nx H3) := by
  refine lc_range (Qd := Qd) (fun i H => H = upd H1 D (.lst ((List.range i).map f))) rfl ?_ fun H e => by rw [e]; exact hd
  rintro i H hi rfl
  refine ⟨hw _, tYes_on (he i hi _ _ ⟨_, upd_same, by rw [List.length_map, List.length_range]; omega, ?_⟩)⟩
  rw [upd_upd, List.range_succ, List.map_append]
  rfl
/-- [e for x in xs] -/
theorem lc_mapL {ys : List V} (hw : ∀ v, wipe ((wipe σ vs).set k (some v)) vs = wipe σ vs) (hl : ∀ acc, SqL K (upd H1 D (.lst acc)) a xs) (hn : xs.length ≤ sizeLine) (hy : ys.length = xs.length)
    (he : ∀ (i : Nat) (x y : V), xs[i]? = some x → ys[i]? = some y → ∀ acc (Q : VK), Q y (upd H1 D (.lst acc)) → te ((wipe σ vs).set k (some x)) (upd H1 D (.lst acc)) Q) (hd : Qd (upd H1 D (.lst ys))) :
    ∃ W : Nat → Nat → Hp → Prop, (∃ m, W 0 m (upd H1 D (.lst []))) ∧ ∀ i m H, W i m H →
      ((Itl K a).stop i H ∧ Qd H) ∨ ((Itl K a).go i H ∧ ∃ Nx : Hp → Prop, (∀ H', Nx H' → ∃ m', m' < m ∧ W (i + 1) m' H') ∧ ∀ x H', (Itl K a).yld i H x H' → gName k x (wipe σ vs) H' fun σ2 H2 => wipe σ2 vs = wipe σ vs ∧ tYes σ2 H2 fun b H3 =>
        if b = true then te σ2 H3 fun y H4 => ∃ acc, H4 D = some (.lst acc) ∧ acc.length < sizeLine ∧ Nx (upd H4 D (.lst (acc ++ [y]))) else Nx H3) := by
  refine lc_list (Qd := Qd) (xs := xs) (fun i H => H = upd H1 D (.lst (ys.take i))) (by rfl) (fun i H _ e => by rw [e]; exact hl _) ?_ fun H e => by
    rw [e, ← hy, List.take_length]
    exact hd
  rintro i x H hi rfl
  have hlt : i < ys.length := by rw [hy]; exact (List.getElem?_eq_some_iff.mp hi).1
  refine ⟨hw _, tYes_on (he i x ys[i] hi (List.getElem?_eq_getElem hlt) _ _ ⟨_, upd_same, by rw [List.length_take]; omega, ?_⟩)⟩
  rw [upd_upd, List.take_succ_eq_append_getElem hlt]
/-- [e for x in xs if t], ys the kept ones, by the places of what is kept -/
theorem lc_iffL {g : V → Option V} (hw : ∀ v, wipe ((wipe σ vs).set k (some v)) vs = wipe σ vs) (hl : ∀ acc, SqL K (upd H1 D (.lst acc)) a xs) (hn : xs.length ≤ sizeLine)
    (he : ∀ (i : Nat) (x : V), xs[i]? = some x → ∀ acc (N : Bool → Hp → Prop), ((g x).isSome = true → N true (upd H1 D (.lst acc))) → ((g x).isSome = false → N false (upd H1 D (.lst acc))) → tt ((wipe σ vs).set k (some x)) (upd H1 D (.lst acc)) N)
    (hy : ∀ (i : Nat) (x y : V), xs[i]? = some x → g x = some y → ∀ acc (Q : VK), Q y (upd H1 D (.lst acc)) → te ((wipe σ vs).set k (some x)) (upd H1 D (.lst acc)) Q) (hd : Qd (upd H1 D (.lst (xs.filterMap g)))) :
    ∃ W : Nat → Nat → Hp → Prop, (∃ m, W 0 m (upd H1 D (.lst []))) ∧ ∀ i m H, W i m H →
      ((Itl K a).stop i H ∧ Qd H) ∨ ((Itl K a).go i H ∧ ∃ Nx : Hp → Prop, (∀ H', Nx H' → ∃ m', m' < m ∧ W (i + 1) m' H') ∧ ∀ x H', (Itl K a).yld i H x H' → gName k x (wipe σ vs) H' fun σ2 H2 => wipe σ2 vs = wipe σ vs ∧ tt σ2 H2 fun b H3 =>
        if b = true then te σ2 H3 fun y H4 => ∃ acc, H4 D = some (.lst acc) ∧ acc.length < sizeLine ∧ Nx (upd H4 D (.lst (acc ++ [y]))) else Nx H3) := by
  refine lc_list (Qd := Qd) (xs := xs) (fun i H => H = upd H1 D (.lst ((xs.take i).filterMap g))) (by rfl) (fun i H _ e => by rw [e]; exact hl _) ?_ fun H e => by
    rw [e, List.take_length]
    exact hd
  rintro i x H hi rfl
  have hlt : i < xs.length := (List.getElem?_eq_some_iff.mp hi).1
  have ex : xs[i] = x := by rw [List.getElem?_eq_getElem hlt] at hi; exact Option.some.inj hi
  have small : ((xs.take i).filterMap g).length < sizeLine := Nat.lt_of_le_of_lt (List.length_filterMap_le _ _) (by rw [List.length_take]; omega)
  refine ⟨hw _, he i x hi _ _ (fun c => ?_) fun c => ?_⟩
  · obtain ⟨y, ey⟩ := Option.isSome_iff_exists.mp c
    rw [if_pos (rfl : true = true)]
    refine hy i x y hi ey _ _ ⟨_, upd_same, small, ?_⟩
    rw [upd_upd, List.take_succ_eq_append_getElem hlt, List.filterMap_append, ex]
    simp only [List.filterMap_cons, ey, List.filterMap_nil]
  · rw [if_neg Bool.false_ne_true, List.take_succ_eq_append_getElem hlt, List.filterMap_append, ex]
    have e0 : g x = none := by cases e : g x with
      | none => rfl
      | some y => rw [e] at c; cases c
    simp only [List.filterMap_cons, e0, List.filterMap_nil, List.append_nil]
end
/-- a statement, then the rest, by what holds between them -/
def tCut (t u : TS) : TS := fun D σ H => ∃ M : L2.St → Hp → Prop, t { D with nx := M } σ H ∧ ∀ σ' H', M σ' H' → u D σ' H'
theorem pss_cut {X : Cx} {st : Stmt} {rest : List Stmt} {t u : TS} (h1 : PS X st t) (h2 : PSs X rest u) : PSs X (st :: rest) (tCut t u) := by
  refine ⟨fun pins s σ H D I h => ?_⟩
  obtain ⟨M, a, b⟩ := h
  refine wpAny_execs_cons (thn (h1.run pins s σ H { D with nx := M } I a) fun f s1 q => ?_)
  cases f with
  | next => exact q.elim fun σ1 z => z.elim fun H1 y => h2.run pins s1 σ1 H1 D y.1 (b σ1 H1 y.2)
  | ret v => exact q
  | brk => exact q
  | cont => exact q
/-- what is wanted of a loop over J; of a comprehension -/
def ForW (J : It) (g : TG) (tb : TS) (D : Ends) (σ : L2.St) (H : Hp) : Prop := ∃ W : Nat → Nat → L2.St → Hp → Prop, (∃ m, W 0 m σ H) ∧ ∀ i m σ H, W i m σ H →
  (J.stop i H ∧ D.nx σ H) ∨ (J.go i H ∧ ∃ N : L2.St → Hp → Prop, (∀ σ' H', N σ' H' → ∃ m', m' < m ∧ W (i + 1) m' σ' H') ∧ ∀ x H', J.yld i H x H' → g x σ H' fun σ2 H2 => tb { D with nx := N, ct := N, bk := D.nx } σ2 H2)
def LcW (J : It) (g : TG) (tt : TT) (te : TE) (vs : List Nat) (σ : L2.St) (H1 : Hp) (Q : VK) : Prop := ∀ D, H1 D = none → ∃ W : Nat → Nat → Hp → Prop, (∃ m, W 0 m (upd H1 D (.lst []))) ∧ ∀ i m H, W i m H →
  (J.stop i H ∧ Q (.ref D) H) ∨ (J.go i H ∧ ∃ Nx : Hp → Prop, (∀ H', Nx H' → ∃ m', m' < m ∧ W (i + 1) m' H') ∧ ∀ x H', J.yld i H x H' → g x (wipe σ vs) H' fun σ2 H2 => wipe σ2 vs = wipe σ vs ∧ tt σ2 H2 fun b H3 =>
    if b = true then te σ2 H3 fun y H4 => ∃ acc, H4 D = some (.lst acc) ∧ acc.length < sizeLine ∧ Nx (upd H4 D (.lst (acc ++ [y]))) else Nx H3)
section
variable {σ : L2.St} {H : Hp} {Q : VK} {D : Ends} {wi : TI} {g : TG} {tb : TS} {tt : TT} {te : TE} {ta : TA} {vs : List Nat} {R : It → Hp → Prop} {K : PySem.W.Frag} {a b : Addr} {n m : Int}
theorem x_for : tFor wi g tb D σ H = wi σ H fun J H1 => ForW J g tb D σ H1 := rfl
theorem x_lc : tLc wi g tt te vs σ H Q = wi σ H fun J H1 => LcW J g tt te vs σ H1 Q := rfl
theorem x_rng1 : iRng1 ta σ H R = ta σ H fun vs H1 => ∃ j : Int, vs = [.int j] ∧ -(2 ^ 62) ≤ j ∧ j < 2 ^ 62 ∧ R (Itr 0 j.toNat) H1 := rfl
theorem x_rng2 : iRng2 ta σ H R = ta σ H fun vs H1 => ∃ i j : Int, vs = [.int i, .int j] ∧ (-(2 ^ 62) ≤ i ∧ i < 2 ^ 62 ∧ -(2 ^ 62) ≤ j ∧ j < 2 ^ 62) ∧ R (Itr i (j - i).toNat) H1 := rfl
theorem x_lst1 {tl : TE} : iList K tl σ H R = tl σ H fun x H1 => ∃ a, x = .ref a ∧ (∃ xs, SqL K H1 a xs) ∧ R (Itl K a) H1 := rfl
theorem x_one {P : Int → Prop} : (∃ j : Int, [V.int n] = [V.int j] ∧ P j) = P n := propext ⟨fun ⟨_, e, q⟩ => by cases e; exact q, fun q => ⟨n, rfl, q⟩⟩
theorem x_two {P : Int → Int → Prop} : (∃ i j : Int, [V.int n, V.int m] = [V.int i, V.int j] ∧ P i j) = P n m := propext ⟨fun ⟨_, _, e, q⟩ => by cases e; exact q, fun q => ⟨n, m, rfl, q⟩⟩
theorem x_adr {P : Addr → Prop} : (∃ b, V.ref a = V.ref b ∧ P b) = P a := propext ⟨fun ⟨_, e, q⟩ => by cases e; exact q, fun q => ⟨a, rfl, q⟩⟩
theorem x_sl {r : V → Option Int → Option Int → Hp → VK → Prop} {tl th : TO} : tSl r te tl th σ H Q = te σ H fun x H1 => tl σ H1 fun l H2 => th σ H2 fun u H3 => r x l u H3 Q := rfl
theorem x_np {QO : Option Int → Hp → Prop} : tNoPart σ H QO = QO none H := rfl
theorem x_pt {QO : Option Int → Hp → Prop} : tPart te σ H QO = te σ H fun x H1 => ∃ i, x = .int i ∧ QO (some i) H1 := rfl
theorem x_int {P : Int → Prop} : (∃ j : Int, V.int n = V.int j ∧ P j) = P n := propext ⟨fun ⟨_, e, q⟩ => by cases e; exact q, fun q => ⟨n, rfl, q⟩⟩
theorem x_bm {T : String} {r : V → List V → Hp → VK → Prop} : tBM K T r te ta σ H Q = te σ H fun x H1 => tyV K T x H1 ∧ ta σ H1 fun xs H2 => r x xs H2 Q := rfl
theorem x_bm0 {T : String} {r : V → List V → Hp → VK → Prop} : tBM0 K T r te σ H Q = te σ H fun x H1 => tyV K T x H1 ∧ r x [] H1 Q := rfl
theorem x_tupg {ts : TGs} {n : Nat} {v : V} {N : L2.St → Hp → Prop} : gTup K n ts v σ H N = ∃ a xs, v = .ref a ∧ SqT K H a xs ∧ xs.length = n ∧ ts xs σ H N := rfl
theorem x_consg {t : TG} {u : TGs} {v : V} {r : List V} {N : L2.St → Hp → Prop} : gCons t u (v :: r) σ H N = t v σ H fun σ' H' => u r σ' H' N := propext ⟨fun ⟨_, _, e, q⟩ => by cases e; exact q, fun q => ⟨v, r, rfl, q⟩⟩
theorem x_nilg {N : L2.St → Hp → Prop} : gNil [] σ H N = N σ H := propext ⟨fun z => z.2, fun z => ⟨rfl, z⟩⟩
theorem x_cut {t u : TS} : tCut t u D σ H = ∃ M : L2.St → Hp → Prop, t { D with nx := M } σ H ∧ ∀ σ' H', M σ' H' → u D σ' H' := rfl
theorem x_dget2 {td ty tx : TE} : tDGet2 td ty tx σ H Q = td σ H fun x H1 => ∃ a, x = .ref a ∧ IsD H1 a ∧ ty σ H1 fun y H2 => tx σ H2 fun z H3 => ∃ o, DGet H3 a y o ∧ Q (o.getD z) H3 := rfl
theorem x_dget1 {td ty : TE} : tDGet1 td ty σ H Q = td σ H fun x H1 => ∃ a, x = .ref a ∧ IsD H1 a ∧ ty σ H1 fun y H2 => ∃ o, DGet H2 a y o ∧ Q (o.getD .non) H2 := rfl
theorem x_dget {td ty : TE} : tDGet td ty σ H Q = td σ H fun x H1 => ty σ H1 fun y H2 => ∃ a v, x = .ref a ∧ DGet H2 a y (some v) ∧ Q v H2 := rfl
theorem x_din {td ty : TE} : tDIn ty td σ H Q = ty σ H fun y H1 => td σ H1 fun x H2 => ∃ a o, x = .ref a ∧ DGet H2 a y o ∧ Q (.bl o.isSome) H2 := rfl
theorem x_dni {td ty : TE} : tDNotIn ty td σ H Q = ty σ H fun y H1 => td σ H1 fun x H2 => ∃ a o, x = .ref a ∧ DGet H2 a y o ∧ Q (.bl (!o.isSome)) H2 := rfl
theorem x_dput {td ty tv : TE} : sDPut td ty tv D σ H = tv σ H fun v H1 => td σ H1 fun x H2 => ty σ H2 fun y H3 => ∃ a H4, x = .ref a ∧ DPut H3 a y v H4 ∧ D.nx σ H4 := rfl
theorem isD_k {kvs : List (Key × V)} (h : H a = some (.dK kvs)) : IsD H a := .inl ⟨kvs, .inl h⟩
theorem dget_i {kvs : List (Key × V)} {i : Int} (h : H a = some (.dK kvs)) : DGet H a (.int i) (valV kvs (.inl i : Key)) := DGet.k (k := .inl i) h
theorem dput_i {kvs : List (Key × V)} {i : Int} {v : V} (h : H a = some (.dK kvs)) (hl : kvs.length < sizeLine) : DPut H a (.int i) v (upd H a (.dK (putK kvs (.inl i : Key) v))) := DPut.k (k := .inl i) h hl
theorem forW_range {lo : Int} {n : Nat} (Pv : Nat → L2.St → Hp → Prop) (h0 : Pv 0 σ H) (hs : ∀ i σ H, i < n → Pv i σ H → g (.int (lo + i)) σ H fun σ2 H2 => tb { D with nx := Pv (i + 1), ct := Pv (i + 1), bk := D.nx } σ2 H2) (hd : ∀ σ H, Pv n σ H → D.nx σ H) : ForW (Itr lo n) g tb D σ H := for_range Pv h0 hs hd
theorem forW_list {xs : List V} (Pv : Nat → L2.St → Hp → Prop) (h0 : Pv 0 σ H) (hl : ∀ i σ H, i ≤ xs.length → Pv i σ H → SqL K H a xs) (hs : ∀ i x σ H, xs[i]? = some x → Pv i σ H → g x σ H fun σ2 H2 => tb { D with nx := Pv (i + 1), ct := Pv (i + 1), bk := D.nx } σ2 H2)
    (hd : ∀ σ H, Pv xs.length σ H → D.nx σ H) : ForW (Itl K a) g tb D σ H := for_list (xs := xs) Pv h0 hl hs hd
end
theorem x_yes {σ : L2.St} {H : Hp} {Q : Bool → Hp → Prop} : tYes σ H Q = Q true H := rfl
end G
namespace G
open PySem PySem.Spec PySem.Calls PyProof.Rows L2
/-! ### more shapes of loops, of targets -/
section
variable {σ : L2.St} {H : Hp} {Q : VK} {D : Ends} {g : TG} {tb : TS} {tl : TE} {ta : TA} {R : It → Hp → Prop} {K : PySem.W.Frag} {a : Addr}
theorem x_itup : iTup K tl σ H R = tl σ H fun x H1 => ∃ a, x = .ref a ∧ (∃ xs, SqT K H1 a xs) ∧ R (Itt K a) H1 := rfl
theorem x_rng3 : iRng3 ta σ H R = ta σ H fun vs H1 => ∃ (i j c : Int) (n : Nat), vs = [.int i, .int j, .int c] ∧ RgC i j c n ∧ R (Itc i c n) H1 := rfl
theorem x_three {x y z : Int} {P : Int → Int → Int → Nat → Prop} : (∃ (i j c : Int) (n : Nat), [V.int x, V.int y, V.int z] = [.int i, .int j, .int c] ∧ P i j c n) = ∃ n, P x y z n :=
  propext ⟨fun ⟨_, _, _, n, e, q⟩ => by cases e; exact ⟨n, q⟩, fun ⟨n, q⟩ => ⟨x, y, z, n, rfl, q⟩⟩
theorem x_lstg {ts : TGs} {n : Nat} {v : V} {N : L2.St → Hp → Prop} : gLst K n ts v σ H N = ∃ a xs, v = .ref a ∧ SqL K H a xs ∧ xs.length = n ∧ ts xs σ H N := rfl
theorem x_adrS {β : Type} {P : Addr → β → Prop} : (∃ b xs, V.ref a = V.ref b ∧ P b xs) = ∃ xs, P a xs := propext ⟨fun ⟨_, xs, e, q⟩ => by cases e; exact ⟨xs, q⟩, fun ⟨xs, q⟩ => ⟨a, xs, rfl, q⟩⟩
theorem forW_tup {xs : List V} (Pv : Nat → L2.St → Hp → Prop) (h0 : Pv 0 σ H) (hl : ∀ i σ H, i ≤ xs.length → Pv i σ H → SqT K H a xs) (hs : ∀ i x σ H, xs[i]? = some x → Pv i σ H → g x σ H fun σ2 H2 => tb { D with nx := Pv (i + 1), ct := Pv (i + 1), bk := D.nx } σ2 H2)
    (hd : ∀ σ H, Pv xs.length σ H → D.nx σ H) : ForW (Itt K a) g tb D σ H := for_tup (xs := xs) Pv h0 hl hs hd
theorem forW_step {lo c : Int} {n : Nat} (Pv : Nat → L2.St → Hp → Prop) (h0 : Pv 0 σ H) (hs : ∀ i σ H, i < n → Pv i σ H → g (.int (lo + (i : Nat) * c)) σ H fun σ2 H2 => tb { D with nx := Pv (i + 1), ct := Pv (i + 1), bk := D.nx } σ2 H2)
    (hd : ∀ σ H, Pv n σ H → D.nx σ H) : ForW (Itc lo c n) g tb D σ H := for_rangeC Pv h0 hs hd
end
end G
namespace G
open PySem PySem.Spec PySem.Calls PyProof.Rows L2 He
/-! ### is True, in, sorted, all -/
section
variable {X : Cx} {K : PySem.W.Frag}
def gIsB : R2 := fun x y H Q => ∃ b, y = .bl b ∧ Q (.bl (decide (x = .bl b))) H
def gNotB : R2 := fun x y H Q => ∃ b, y = .bl b ∧ Q (.bl (!decide (x = .bl b))) H
theorem relV_bl {x : V} {b : Bool} (r : RelV x (.bool b)) : x = .bl b := by
  cases x with
  | bl c => cases r; rfl
  | int i => obtain ⟨t, e⟩ := r; cases e
  | str i => obtain ⟨t, e⟩ := r; cases e
  | byt i => obtain ⟨t, e⟩ := r; cases e
  | flt i => obtain ⟨t, e⟩ := r; cases e
  | non => cases r
  | ref a => cases r
  | ty n => cases r
theorem relV_plain {x : V} {v : Value} {b : Bool} (r : RelV x v) : plainIs v (.bool b) = true := by
  cases x with
  | bl c => cases r; rfl
  | int i => obtain ⟨t, e⟩ := r; subst e; rfl
  | str i => obtain ⟨t, e⟩ := r; subst e; rfl
  | byt i => obtain ⟨t, e⟩ := r; subst e; rfl
  | flt i => obtain ⟨t, e⟩ := r; subst e; rfl
  | non => cases r; rfl
  | ref a => cases r; rfl
  | ty n => cases r; rfl
theorem op_gIsB : OpR X (compareOp .Is) gIsB := by
  intro pins s σ H x y v u Q I rx ry h
  obtain ⟨b, rfl, q⟩ := h
  cases (show u = Value.bool b from ry)
  by_cases e : v = .bool b
  · subst e
    have ex := relV_bl rx
    exact wpAny_is_self rfl ⟨.bl true, H, I, rfl, by rw [decide_eq_true ex] at q; exact q⟩
  · have ex : ¬ x = .bl b := fun z => e (by subst z; exact rx)
    exact wpAny_is_other (relV_plain rx) e ⟨.bl false, H, I, rfl, by rw [decide_eq_false ex] at q; exact q⟩
theorem op_gNotB : OpR X (compareOp .IsNot) gNotB := by
  intro pins s σ H x y v u Q I rx ry h
  obtain ⟨b, rfl, q⟩ := h
  cases (show u = Value.bool b from ry)
  by_cases e : v = .bool b
  · subst e
    have ex := relV_bl rx
    exact wpAny_isNot_self rfl ⟨.bl false, H, I, rfl, by rw [decide_eq_true ex] at q; exact q⟩
  · have ex : ¬ x = .bl b := fun z => e (by subst z; exact rx)
    exact wpAny_isNot_other (relV_plain rx) e ⟨.bl true, H, I, rfl, by rw [decide_eq_false ex] at q; exact q⟩
theorem op_inK (hK : X.K = K) : OpR X (compareOp .In) (rIn K false) := hK ▸ op_in_seq
theorem op_ninK (hK : X.K = K) : OpR X (compareOp .NotIn) (rIn K true) := hK ▸ op_notIn_seq
theorem call_sortedK (hK : X.K = K) : CallR X (.builtin "sorted") (rSortedI K) := hK ▸ cr_sortedI
theorem call_allK (hK : X.K = K) (hc : X.calm = true) : CallR X (.builtin "all") (rAll K) := hK ▸ cr_all hc
theorem call_anyK (hK : X.K = K) (hc : X.calm = true) : CallR X (.builtin "any") (rAny K) := hK ▸ cr_any hc
end
section
variable {σ : L2.St} {H : Hp} {Q : VK} {x : V} {b : Bool}
theorem r_isB : gIsB x (.bl b) H Q = Q (.bl (decide (x = .bl b))) H := propext ⟨fun ⟨_, e, q⟩ => by cases e; exact q, fun q => ⟨b, rfl, q⟩⟩
theorem r_notB : gNotB x (.bl b) H Q = Q (.bl (!decide (x = .bl b))) H := propext ⟨fun ⟨_, e, q⟩ => by cases e; exact q, fun q => ⟨b, rfl, q⟩⟩
theorem x_dpop2 {td ty tx : TE} : tDPop2 td ty tx σ H Q = td σ H fun x H1 => ∃ a, x = .ref a ∧ IsD H1 a ∧ ty σ H1 fun y H2 => tx σ H2 fun z H3 => ∃ kvs k, H3 a = some (.dK kvs) ∧ y = kV k ∧
  (∀ v, valV kvs k = some v → Q v (upd H3 a (.dK (dropK kvs k)))) ∧ (valV kvs k = none → Q z H3) := rfl
theorem r_isi {v : V} {T t : String} (e : tyOf v H = some t) (q : Q (.bl (isB t T)) H) (hT : T ∈ (["int", "bool", "str", "list", "tuple", "dict"] : List String) := by decide) : gIsi [v, .ty T] H Q := ⟨hT, t, e, q⟩
theorem r_isiL {a : Addr} {xs : List V} (h : H a = some (.lst xs)) (q : Q (.bl true) H) : gIsi [.ref a, .ty "list"] H Q := r_isi (t := "list") (by show tyO (H a) = _; rw [h]; rfl) q
theorem r_isiT {a : Addr} {xs : List V} (h : H a = some (.tup xs)) (q : Q (.bl true) H) : gIsi [.ref a, .ty "tuple"] H Q := r_isi (t := "tuple") (by show tyO (H a) = _; rw [h]; rfl) q
theorem r_isiII {n : Int} : gIsi [.int n, .ty "int"] H Q = Q (.bl true) H := propext ⟨fun ⟨_, t, e, q⟩ => by cases e; exact q, fun q => ⟨by decide, _, rfl, q⟩⟩
theorem r_isiBB : gIsi [.bl b, .ty "bool"] H Q = Q (.bl true) H := propext ⟨fun ⟨_, t, e, q⟩ => by cases e; exact q, fun q => ⟨by decide, _, rfl, q⟩⟩
theorem r_isiIB {n : Int} : gIsi [.int n, .ty "bool"] H Q = Q (.bl false) H := propext ⟨fun ⟨_, t, e, q⟩ => by cases e; exact q, fun q => ⟨by decide, _, rfl, q⟩⟩
theorem r_isiSS {z : Str} : gIsi [.str z, .ty "str"] H Q = Q (.bl true) H := propext ⟨fun ⟨_, t, e, q⟩ => by cases e; exact q, fun q => ⟨by decide, _, rfl, q⟩⟩
theorem r_neNS {K : PySem.W.Frag} {z : Str} : gNe K .non (.str z) H Q = Q (.bl true) H := rfl
theorem r_neSN {K : PySem.W.Frag} {z : Str} : gNe K (.str z) .non H Q = Q (.bl true) H := rfl
theorem r_neNN {K : PySem.W.Frag} : gNe K .non .non H Q = Q (.bl false) H := rfl
theorem r_eqNS {K : PySem.W.Frag} {z : Str} : gEq K .non (.str z) H Q = Q (.bl false) H := rfl
theorem r_eqSN {K : PySem.W.Frag} {z : Str} : gEq K (.str z) .non H Q = Q (.bl false) H := rfl
theorem r_eqNN {K : PySem.W.Frag} : gEq K .non .non H Q = Q (.bl true) H := rfl
theorem r_eqIS {K : PySem.W.Frag} {n : Int} {z : Str} : gEq K (.int n) (.str z) H Q = Q (.bl false) H := rfl
theorem r_neIS {K : PySem.W.Frag} {n : Int} {z : Str} : gNe K (.int n) (.str z) H Q = Q (.bl true) H := rfl
theorem r_neSI {K : PySem.W.Frag} {n : Int} {z : Str} : gNe K (.str z) (.int n) H Q = Q (.bl true) H := rfl
theorem r_neBS {K : PySem.W.Frag} {z : Str} : gNe K (.bl b) (.str z) H Q = Q (.bl true) H := rfl
theorem r_eqBB {K : PySem.W.Frag} {c : Bool} : gEq K (.bl b) (.bl c) H Q = Q (.bl (b == c)) H := rfl
theorem r_neBB {K : PySem.W.Frag} {c : Bool} : gNe K (.bl b) (.bl c) H Q = Q (.bl (!(b == c))) H := rfl
theorem r_ixL {K : PySem.W.Frag} {a : Addr} {xs : List V} {i : Nat} {v : V} (h : H a = some (.lst xs)) (e : xs[i]? = some v) (q : Q v H) : rIx K (.ref a) (.int (i : Int)) H Q := .inl ⟨_, _, _, _, rfl, rfl, .of h, by
  have hl := (List.getElem?_eq_some_iff.mp e).1
  unfold atI ixN
  rw [if_pos (by omega), if_pos (by omega), Int.toNat_natCast]
  exact e, q⟩
end
/-! ### isinstance(e, (C, D, ..)) of a caught error -/
def tIsQ (K : PySem.W.Frag) (x : V) (cs : List V) (H : Hp) (Q : VK) : Prop := cs.length ≤ sizeLine ∧ ∃ a D us b, x = .ref a ∧ H a = some (ExA (.ref D) a) ∧ ExcC K D ∧ Paired ClsV cs us ∧ PySem.W.kitAny K (.ref D) us = some b ∧ Q (.bl b) H
theorem x_isT {K : PySem.W.Frag} {σ : L2.St} {H : Hp} {Q : VK} {ta : TE} {tc : TA} : tIsT K ta tc σ H Q = ta σ H fun x H1 => tc σ H1 fun cs H2 => tIsQ K x cs H2 Q := rfl
inductive NamesK (K : PySem.W.Frag) : List V → List Str → Prop where
  | nil : NamesK K [] []
  | cons (c : Str) {cs : List V} {ns : List Str} (t : NamesK K cs ns) : NamesK K (.ref (ga K c) :: cs) (c :: ns)
theorem NamesK.len {K : PySem.W.Frag} {cs : List V} {ns : List Str} (h : NamesK K cs ns) : cs.length = ns.length := by
  induction h with
  | nil => rfl
  | cons c t ih => exact congrArg (· + 1) ih
theorem NamesK.pair {K : PySem.W.Frag} {cs : List V} {ns : List Str} (h : NamesK K cs ns) : Paired ClsV cs (ns.map fun c => Value.ref (ga K c)) := by
  induction h with
  | nil => exact .nil
  | cons c t ih => exact .cons (.own _) ih
theorem Told.anyOf {fa : List Fa} {fn : List DefD} {xl : XL} {K : PySem.W.Frag} {mg : Str → Option Value} (T : Told fa fn xl K mg) {d : Str} (hd : d ∈ xl.ex) : ∀ ns : List Str, (∀ c ∈ ns, c ∈ xl.ex) → PySem.W.kitAny K (.ref (ga K d)) (ns.map fun c => Value.ref (ga K c)) = some (ns.any (under d))
  | [], _ => rfl
  | c :: r, h => by
    show (match PySem.W.kitOne K (.ref (ga K d)) (.ref (ga K c)) with
      | some true => some true
      | some false => PySem.W.kitAny K (.ref (ga K d)) (r.map fun c => Value.ref (ga K c))
      | none => none) = some (under d c || r.any (under d))
    rw [((T.err hd).2.2 c (h c (List.mem_cons_self))).1]
    cases under d c with
    | true => rfl
    | false => exact T.anyOf hd r fun c hc => h c (List.mem_cons_of_mem _ hc)
theorem Told.isA {fa : List Fa} {fn : List DefD} {xl : XL} {K : PySem.W.Frag} {mg : Str → Option Value} (T : Told fa fn xl K mg) {d : Str} {a : Addr} {H : Hp} {Q : VK} {cs : List V} {ns : List Str} {b : Bool} (ha : H a = some (ExA (.ref (ga K d)) a)) (n : NamesK K cs ns)
    (hd : d ∈ xl.ex) (hc : (ns.all fun c => decide (c ∈ xl.ex)) = true) (hl : ns.length ≤ 1000) (e : ns.any (under d) = b) (q : Q (.bl b) H) : tIsQ K (.ref a) cs H Q :=
  ⟨by rw [n.len, sizeLine_eq]; omega, a, _, _, b, rfl, ha, (T.err hd).1, n.pair, (T.anyOf hd ns fun c h => of_decide_eq_true (List.all_eq_true.mp hc c h)).trans (congrArg some e), q⟩
end G
namespace G
open PySem PySem.Spec PySem.Calls PyProof.Rows L2 He
/-! ### == of data of some depth -/
def ShK (k : Nat) (d : PyData) : Prop := d.canLay0 = true ∧ d.depth ≤ k
theorem ShK.up {k n : Nat} {d : PyData} (h : ShK k d) (e : k ≤ n) : ShK n d := ⟨h.1, Nat.le_trans h.2 e⟩
theorem ShK.all {k : Nat} : ∀ {ds : List PyData}, (∀ z ∈ ds, ShK k z) → PyData.canLayAll0 ds = true ∧ PyData.depthAll ds ≤ k
  | [], _ => ⟨by simp [PyData.canLayAll0], by simp [PyData.depthAll]⟩
  | z :: zs, h => by
    have h1 := ShK.all (ds := zs) fun y hy => h y (List.mem_cons_of_mem _ hy)
    have h2 := h z (List.mem_cons_self)
    refine ⟨by simp [PyData.canLayAll0, h2.1, h1.1], ?_⟩
    have a := h2.2
    have b := h1.2
    simp only [PyData.depthAll]
    omega
theorem ShK.lst {k : Nat} {ds : List PyData} (h : ∀ z ∈ ds, ShK k z) : ShK (k + 1) (.list ds) := by
  have a := ShK.all h
  refine ⟨by simp [PyData.canLay0, a.1], ?_⟩
  have b := a.2
  simp only [PyData.depth]
  omega
theorem ShK.tup {k : Nat} {ds : List PyData} (h : ∀ z ∈ ds, ShK k z) : ShK (k + 1) (.tuple ds) := by
  have a := ShK.all h
  refine ⟨by simp [PyData.canLay0, a.1], ?_⟩
  have b := a.2
  simp only [PyData.depth]
  omega
theorem ShK.ok {k : Nat} {d : PyData} (h : ShK k d) (e : k ≤ 64) : SeqAt.shaped d = true := by
  show (d.canLay0 && decide (d.depth ≤ 64)) = true
  rw [h.1, decide_eq_true (Nat.le_trans h.2 e)]
  rfl
/-- flat things as data -/
def toD : V → PyData
  | .bl b => .bool b
  | .int i => .int i
  | _ => .none
def flatI : V → Bool
  | .non => true
  | .bl _ => true
  | .int _ => true
  | _ => false
theorem toD_sh {v : V} : ShK 0 (toD v) := by cases v <;> exact ⟨by simp [toD, PyData.canLay0], by simp [toD, PyData.depth]⟩
theorem toD_dp {K : PySem.W.Frag} {H : Hp} {v : V} (h : flatI v = true) : Dp K H v (toD v) := by
  cases v <;> first | (cases h; done) | skip
  · exact .non
  · exact .bl _
  · exact .int _
theorem toDs_dp {K : PySem.W.Frag} {H : Hp} : ∀ {xs : List V}, (∀ x ∈ xs, flatI x = true) → DpAll K H xs (xs.map toD)
  | [], _ => .nil
  | _ :: _, h => .cons (toD_dp (h _ (List.mem_cons_self))) (toDs_dp fun y hy => h y (List.mem_cons_of_mem _ hy))
theorem toDs_sh {xs : List V} : ∀ z ∈ xs.map toD, ShK 0 z := fun z h => by
  obtain ⟨v, -, e⟩ := List.mem_map.mp h
  subst e
  exact toD_sh
/-- lists of flat things; of tuples of flat things -/
theorem dp_flat {K : PySem.W.Frag} {H : Hp} {a : Addr} {xs : List V} (h : H a = some (.lst xs)) (f : ∀ x ∈ xs, flatI x = true) : Dp K H (.ref a) (.list (xs.map toD)) := .lst (.of h) (toDs_dp f)
theorem sh_flat {xs : List V} : SeqAt.shaped (.list (xs.map toD)) = true := (ShK.lst toDs_sh).ok (by decide)
inductive TupAll (H : Hp) : List V → List (List V) → Prop where
  | nil : TupAll H [] []
  | cons {tp : Addr} {xs : List V} {rs : List V} {yss : List (List V)} (h : H tp = some (.tup xs)) (f : ∀ x ∈ xs, flatI x = true) (t : TupAll H rs yss) : TupAll H (.ref tp :: rs) (xs :: yss)
def tupD (yss : List (List V)) : PyData := .list (yss.map fun xs => .tuple (xs.map toD))
theorem TupAll.dp {K : PySem.W.Frag} {H : Hp} : ∀ {rs : List V} {yss : List (List V)}, TupAll H rs yss → DpAll K H rs (yss.map fun xs => .tuple (xs.map toD))
  | _, _, .nil => .nil
  | _, _, .cons h f t => .cons (.tup (.inl (.inl h)) (toDs_dp f)) t.dp
theorem TupAll.same {H H' : Hp} {rs : List V} {yss : List (List V)} (h : TupAll H rs yss) (s : Same H H') : TupAll H' rs yss := by
  induction h with
  | nil => exact .nil
  | cons h f t ih => exact .cons (s _ _ h) f ih
theorem TupAll.snoc {H : Hp} {rs : List V} {yss : List (List V)} {tp : Addr} {xs : List V} (h : TupAll H rs yss) (e : H tp = some (.tup xs)) (f : ∀ x ∈ xs, flatI x = true) : TupAll H (rs ++ [.ref tp]) (yss ++ [xs]) := by
  induction h with
  | nil => exact .cons e f .nil
  | cons h f' t ih => exact .cons h f' ih
theorem TupAll.put {H : Hp} {rs : List V} {yss : List (List V)} {D : Addr} {o o' : HO} (h : TupAll H rs yss) (e : H D = some o) (n : ∀ xs, o ≠ .tup xs) : TupAll (upd H D o') rs yss := by
  induction h with
  | nil => exact .nil
  | cons h f t ih => exact .cons (by rw [upd_ne (ne_of h e fun z => n _ z.symm)]; exact h) f ih
theorem TupAll.len {H : Hp} {rs : List V} {yss : List (List V)} (h : TupAll H rs yss) : rs.length = yss.length := by
  induction h with
  | nil => rfl
  | cons h f t ih => exact congrArg (· + 1) ih
theorem TupAll.mem {H : Hp} {rs : List V} {yss : List (List V)} (h : TupAll H rs yss) : ∀ r ∈ rs, ∃ tp xs, r = .ref tp ∧ H tp = some (.tup xs) ∧ xs ∈ yss := by
  induction h with
  | nil => exact fun r h => (List.not_mem_nil h).elim
  | cons h f t ih =>
    intro r hr
    rcases List.mem_cons.mp hr with rfl | hr
    · exact ⟨_, _, rfl, h, List.mem_cons_self⟩
    · obtain ⟨tp, xs, e, h', m⟩ := ih r hr
      exact ⟨tp, xs, e, h', List.mem_cons_of_mem _ m⟩
theorem dp_tups {K : PySem.W.Frag} {H : Hp} {a : Addr} {rs : List V} {yss : List (List V)} (h : H a = some (.lst rs)) (t : TupAll H rs yss) : Dp K H (.ref a) (tupD yss) := .lst (.of h) t.dp
theorem sh_tups {yss : List (List V)} : SeqAt.shaped (tupD yss) = true := by
  refine (ShK.lst (k := 1) fun z h => ?_).ok (by decide)
  obtain ⟨xs, -, e⟩ := List.mem_map.mp h
  subst e
  exact ShK.tup toDs_sh
theorem shaped_refl {d : PyData} (s : SeqAt.shaped d = true) : PyData.eqv d d = true := PySem.SeqAt.eqv_refl d (SeqAt.canLay_of_shaped s)
theorem r_eqSame {K : PySem.W.Frag} {H : Hp} {Q : VK} {a b : Addr} {d : PyData} (h1 : Dp K H (.ref a) d) (h2 : Dp K H (.ref b) d) (s : SeqAt.shaped d = true) (q : Q (.bl true) H) : gEq K (.ref a) (.ref b) H Q := ⟨d, d, h1, h2, s, s, by rw [shaped_refl s]; exact q⟩
theorem r_neSame {K : PySem.W.Frag} {H : Hp} {Q : VK} {a b : Addr} {d : PyData} (h1 : Dp K H (.ref a) d) (h2 : Dp K H (.ref b) d) (s : SeqAt.shaped d = true) (q : Q (.bl false) H) : gNe K (.ref a) (.ref b) H Q := ⟨d, d, h1, h2, s, s, by rw [shaped_refl s]; exact q⟩
theorem getD_range {ts : List V} {d : V} : (List.range ts.length).map (fun i => ts.getD i d) = ts := by
  refine List.ext_getElem (by rw [List.length_map, List.length_range]) fun i h1 h2 => ?_
  rw [List.getElem_map, List.getElem_range, List.getD_eq_getElem?_getD, List.getElem?_eq_getElem h2]
  rfl
theorem getD_at {α : Type} {ts : List α} {d : α} {i : Nat} (h : i < ts.length) : ts[i]? = some (ts.getD i d) := by
  rw [List.getElem?_eq_getElem h, List.getD_eq_getElem?_getD, List.getElem?_eq_getElem h]
  rfl
theorem r_ixT {K : PySem.W.Frag} {H : Hp} {Q : VK} {a : Addr} {xs : List V} {i : Nat} {v : V} (h : H a = some (.tup xs)) (e : xs[i]? = some v) (q : Q v H) : rIx K (.ref a) (.int (i : Int)) H Q := .inr (.inl ⟨_, _, _, _, rfl, rfl, .inl (.inl h), by
  have hl := (List.getElem?_eq_some_iff.mp e).1
  unfold atI ixN
  rw [if_pos (by omega), if_pos (by omega), Int.toNat_natCast]
  exact e, q⟩)
theorem op_catTK {X : Cx} {K : PySem.W.Frag} (hK : X.K = K) : OpR X (binaryOp .Add) (rCatT K) := hK ▸ op_catT
theorem r_cat {K : PySem.W.Frag} {H : Hp} {Q : VK} {a b : Addr} {xs ys : List V} (h1 : H a = some (.tup xs)) (h2 : H b = some (.tup ys)) (nx : xs ≠ []) (ny : ys ≠ []) (hl : xs.length + ys.length ≤ sizeLine) (q : ∀ p, H p = none → Q (.ref p) (upd H p (.tup (xs ++ ys)))) : rCatT K (.ref a) (.ref b) H Q :=
  ⟨a, b, xs, ys, rfl, rfl, .inl (.inl h1), .inl (.inl h2), nx, hl, fun e => absurd e ny, fun _ => q⟩
/-- addresses that are in use -/
def Live (H : Hp) (L : List Addr) : Prop := L.Nodup ∧ ∀ c ∈ L, ∃ o, H c = some o
theorem Live.nil {H : Hp} : Live H [] := ⟨List.nodup_nil, fun c h => (List.not_mem_nil h).elim⟩
theorem Live.same {H H' : Hp} {L : List Addr} (h : Live H L) (s : Same H H') : Live H' L := ⟨h.1, fun c m => let ⟨o, e⟩ := h.2 c m; ⟨o, s _ _ e⟩⟩
theorem Live.cons {H H' : Hp} {L : List Addr} {x : Addr} {o : HO} (h : Live H L) (s : Same H H') (e : H x = none) (e' : H' x = some o) : Live H' (x :: L) := by
  refine ⟨List.nodup_cons.mpr ⟨fun m => ?_, h.1⟩, fun c m => ?_⟩
  · obtain ⟨o, g⟩ := h.2 x m
    rw [e] at g
    cases g
  · rcases List.mem_cons.mp m with rfl | m
    · exact ⟨_, e'⟩
    · obtain ⟨o, g⟩ := h.2 c m
      exact ⟨o, s _ _ g⟩
/-! ### enumerate -/
theorem x_enum {σ : L2.St} {H : Hp} {ta : TA} {R : It → Hp → Prop} {K : PySem.W.Frag} : iEnum K ta σ H R = ta σ H fun vs H1 => ∃ a xs, vs = [.ref a] ∧ SqL K H1 a xs ∧ R (Ite K a) H1 := rfl
end G
namespace G
open PySem PySem.Spec PySem.Calls PyProof.Rows L2 He
/-! ### while -/
def WhB (W : Nat → L2.St → Hp → Prop) (k : Nat) (tb : TS) (D : Ends) (σ : L2.St) (H : Hp) : Prop :=
  ∃ N : L2.St → Hp → Prop, (∀ σ' H', N σ' H' → ∃ m', m' < k ∧ W m' σ' H') ∧ tb { D with nx := N, ct := N, bk := D.nx } σ H
theorem whW {c : TT} {tb : TS} {D : Ends} {σ : L2.St} {H : Hp} (W : Nat → L2.St → Hp → Prop) (h0 : ∃ k, W k σ H) (hs : ∀ k σ H, W k σ H → c σ H fun b H1 => if b = true then WhB W k tb D σ H1 else D.nx σ H1) : tWhile c tb D σ H :=
  ⟨W, h0, hs⟩
theorem whB {W : Nat → L2.St → Hp → Prop} {k : Nat} {tb : TS} {D : Ends} {σ : L2.St} {H : Hp} (h : tb { D with nx := fun σ' H' => ∃ m', m' < k ∧ W m' σ' H', ct := fun σ' H' => ∃ m', m' < k ∧ W m' σ' H', bk := D.nx } σ H) : WhB W k tb D σ H :=
  ⟨_, fun _ _ q => q, h⟩
end G
namespace G
open PySem PySem.Spec PySem.Calls PyProof.Rows L2 He
theorem call_sumK {X : Cx} {K : PySem.W.Frag} (hK : X.K = K) (hc : X.calm = true) : CallR X (.builtin "sum") (rSum K) := hK ▸ cr_sum hc
theorem r_sumL {K : PySem.W.Frag} {H : Hp} {Q : VK} {a : Addr} {ns : List Int} (h : H a = some (.lst (ns.map V.int))) (q : Q (.int ns.sum) H) : rSum K [.ref a] H Q := ⟨a, ns, rfl, .of h, q⟩
/-- all of a list of truths is true -/
theorem r_allT {K : PySem.W.Frag} {H : Hp} {Q : VK} {a : Addr} {n : Nat} (h : H a = some (.lst (List.replicate n (.bl true)))) (q : Q (.bl true) H) : rAll K [.ref a] H Q := by
  refine ⟨a, List.replicate n true, rfl, .of (by rw [List.map_replicate]; exact h), ?_⟩
  rw [show (List.replicate n true).all id = true from List.all_eq_true.mpr fun b hb => (List.mem_replicate.mp hb).2]
  exact q
/-- [True for .. in xs] -/
theorem lc_trueL {σ : L2.St} {vs : List Nat} {H1 : Hp} {D : Addr} {Qd : Hp → Prop} {te : TE} {k : Nat} {K : PySem.W.Frag} {a : Addr} {xs : List V} (hw : ∀ v, wipe ((wipe σ vs).set k (some v)) vs = wipe σ vs) (hl : ∀ acc, SqL K (upd H1 D (.lst acc)) a xs) (hn : xs.length ≤ sizeLine)
    (he : ∀ (i : Nat) (x : V), xs[i]? = some x → ∀ acc (Q : VK), Q (.bl true) (upd H1 D (.lst acc)) → te ((wipe σ vs).set k (some x)) (upd H1 D (.lst acc)) Q) (hd : Qd (upd H1 D (.lst (List.replicate xs.length (.bl true))))) :
    ∃ W : Nat → Nat → Hp → Prop, (∃ m, W 0 m (upd H1 D (.lst []))) ∧ ∀ i m H, W i m H →
      ((Itl K a).stop i H ∧ Qd H) ∨ ((Itl K a).go i H ∧ ∃ Nx : Hp → Prop, (∀ H', Nx H' → ∃ m', m' < m ∧ W (i + 1) m' H') ∧ ∀ x H', (Itl K a).yld i H x H' → gName k x (wipe σ vs) H' fun σ2 H2 => wipe σ2 vs = wipe σ vs ∧ tYes σ2 H2 fun b H3 =>
        if b = true then te σ2 H3 fun y H4 => ∃ acc, H4 D = some (.lst acc) ∧ acc.length < sizeLine ∧ Nx (upd H4 D (.lst (acc ++ [y]))) else Nx H3) :=
  lc_mapL (ys := List.replicate xs.length (.bl true)) hw hl hn (List.length_replicate) (fun i x y hx hy acc Q q => by
    have e := (List.mem_replicate.mp (List.mem_of_getElem? hy)).2
    subst e
    exact he i x hx acc Q q) hd
/-- whole numbers in a list -/
theorem ints_mem {ns : List Int} {i : Nat} {x : V} (h : (ns.map V.int)[i]? = some x) : ∃ n, x = .int n ∧ n ∈ ns := by
  obtain ⟨n, m, e⟩ := List.mem_map.mp (List.mem_of_getElem? h)
  exact ⟨n, e.symm, m⟩
theorem ints_flat {ns : List Int} : ∀ x ∈ ns.map V.int, flatI x = true := fun x h => by
  obtain ⟨i, -, e⟩ := List.mem_map.mp h
  subst e
  rfl
theorem dp_ints {K : PySem.W.Frag} {H : Hp} {a : Addr} {ns : List Int} (h : H a = some (.lst (ns.map V.int))) : Dp K H (.ref a) (.list ((ns.map V.int).map toD)) := dp_flat h ints_flat
/-- two lists of the same whole numbers -/
theorem r_eqInts {K : PySem.W.Frag} {H : Hp} {Q : VK} {a b : Addr} {ns : List Int} (h1 : H a = some (.lst (ns.map V.int))) (h2 : H b = some (.lst (ns.map V.int))) (q : Q (.bl true) H) : gEq K (.ref a) (.ref b) H Q := r_eqSame (dp_ints h1) (dp_ints h2) sh_flat q
theorem r_neInts {K : PySem.W.Frag} {H : Hp} {Q : VK} {a b : Addr} {ns : List Int} (h1 : H a = some (.lst (ns.map V.int))) (h2 : H b = some (.lst (ns.map V.int))) (q : Q (.bl false) H) : gNe K (.ref a) (.ref b) H Q := r_neSame (dp_ints h1) (dp_ints h2) sh_flat q
/-- [text, thing]: what law's tries tell -/
inductive PlD : V → PyData → Prop where
  | non : PlD .non .none
  | bl (b : Bool) : PlD (.bl b) (.bool b)
  | int (i : Int) : PlD (.int i) (.int i)
  | str (z : Str) (h : PyData.strOk z = true) : PlD (.str z) (.str z)
theorem PlD.dp {K : PySem.W.Frag} {H : Hp} {v : V} {d : PyData} (h : PlD v d) : Dp K H v d := by
  cases h with
  | non => exact .non
  | bl b => exact .bl b
  | int i => exact .int i
  | str z h => exact .str z
theorem PlD.sh {v : V} {d : PyData} (h : PlD v d) : ShK 0 d := by
  cases h with
  | str z h => exact ⟨by simp only [PyData.canLay0]; exact h, by simp [PyData.depth]⟩
  | _ => exact ⟨by simp [PyData.canLay0], by simp [PyData.depth]⟩
inductive PlAll : List V → List PyData → Prop where
  | nil : PlAll [] []
  | cons {v : V} {d : PyData} {vs : List V} {ds : List PyData} (h : PlD v d) (t : PlAll vs ds) : PlAll (v :: vs) (d :: ds)
theorem PlAll.dp {K : PySem.W.Frag} {H : Hp} {vs : List V} {ds : List PyData} (h : PlAll vs ds) : DpAll K H vs ds := by
  induction h with
  | nil => exact .nil
  | cons h t ih => exact .cons h.dp ih
theorem PlAll.sh {vs : List V} {ds : List PyData} (h : PlAll vs ds) : ∀ z ∈ ds, ShK 0 z := by
  induction h with
  | nil => exact fun z h => (List.not_mem_nil h).elim
  | cons h t ih =>
    intro z m
    rcases List.mem_cons.mp m with rfl | m
    · exact h.sh
    · exact ih z m
/-- == of lists of plain things -/
theorem r_eqPl {K : PySem.W.Frag} {H : Hp} {Q : VK} {a b : Addr} {xs ys : List V} {ds es : List PyData} (h1 : H a = some (.lst xs)) (h2 : H b = some (.lst ys)) (p1 : PlAll xs ds) (p2 : PlAll ys es) (q : Q (.bl (PyData.eqv (.list ds) (.list es))) H) : gEq K (.ref a) (.ref b) H Q :=
  ⟨_, _, .lst (.of h1) p1.dp, .lst (.of h2) p2.dp, (ShK.lst p1.sh).ok (by decide), (ShK.lst p2.sh).ok (by decide), q⟩
theorem r_nePl {K : PySem.W.Frag} {H : Hp} {Q : VK} {a b : Addr} {xs ys : List V} {ds es : List PyData} (h1 : H a = some (.lst xs)) (h2 : H b = some (.lst ys)) (p1 : PlAll xs ds) (p2 : PlAll ys es) (q : Q (.bl (!PyData.eqv (.list ds) (.list es))) H) : gNe K (.ref a) (.ref b) H Q :=
  ⟨_, _, .lst (.of h1) p1.dp, .lst (.of h2) p2.dp, (ShK.lst p1.sh).ok (by decide), (ShK.lst p2.sh).ok (by decide), q⟩
theorem r_eqPlT {K : PySem.W.Frag} {H : Hp} {Q : VK} {a b : Addr} {xs : List V} {ds : List PyData} (h1 : H a = some (.lst xs)) (h2 : H b = some (.lst xs)) (p : PlAll xs ds) (q : Q (.bl true) H) : gEq K (.ref a) (.ref b) H Q :=
  r_eqSame (.lst (.of h1) p.dp) (.lst (.of h2) p.dp) ((ShK.lst p.sh).ok (by decide)) q
theorem r_nePlT {K : PySem.W.Frag} {H : Hp} {Q : VK} {a b : Addr} {xs : List V} {ds : List PyData} (h1 : H a = some (.lst xs)) (h2 : H b = some (.lst xs)) (p : PlAll xs ds) (q : Q (.bl false) H) : gNe K (.ref a) (.ref b) H Q :=
  r_neSame (.lst (.of h1) p.dp) (.lst (.of h2) p.dp) ((ShK.lst p.sh).ok (by decide)) q
end G
namespace G
open PySem PySem.Spec PySem.Calls PyProof.Rows L2 He
/-! ### isinstance of an own class's instance; in a written tuple -/
theorem call_isiK {X : Cx} {K : PySem.W.Frag} (hK : X.K = K) : CallR X (.builtin "isinstance") (rIsi K) := hK ▸ call_isi
theorem r_isiIns {K : PySem.W.Frag} {H : Hp} {Q : VK} {a C dx : Addr} {fs : List (Str × V)} (h : H a = some (.ins C dx fs)) (c : Cls K C) (n : ClN K C) (q : Q (.bl false) H) : rIsi K [.ref a, .ty "str"] H Q :=
  ⟨_, _, _, _, _, rfl, .ty _, .base (TyOf.ins h c n.ha n.hn n.htk n.hm), n.no, q⟩
theorem r_isiOwn {K : PySem.W.Frag} {H : Hp} {Q : VK} {a C dx : Addr} {fs : List (Str × V)} (h : H a = some (.ins C dx fs)) (c : Cls K C) (n : ClN K C) (q : Q (.bl true) H) : rIsi K [.ref a, .ref C] H Q :=
  ⟨_, _, _, _, _, rfl, .own _, .base (TyOf.ins h c n.ha n.hn n.htk n.hm), (by show (if (Value.ref C == Value.ref C) = true then some true else _) = _; rw [if_pos (beq_self_eq_true _)]), q⟩
theorem r_isiPl {K : PySem.W.Frag} {H : Hp} {Q : VK} {x : V} {t n : String} (h : tyOf x H = some t) (hn : n ∈ (["int", "bool", "str", "list", "tuple", "dict"] : List String)) (q : Q (.bl (isB t n)) H) : rIsi K [x, .ty n] H Q :=
  ⟨_, _, _, _, _, rfl, .ty _, tyOf_ok h, kit_ty (isB_all t (tyOf_in h) _ hn), q⟩
/-- x in a written tuple: flat things; data -/
def rInG (K : PySem.W.Frag) (neg : Bool) : R2 := fun x y H Q => rIn K neg x y H Q ∨ ∃ d ds, Dp K H x d ∧ Dp K H y (.tuple ds) ∧ SeqAt.shaped d = true ∧ SeqAt.shaped (.tuple ds) = true ∧ Q (.bl (if neg then !ds.any fun z => PyData.eqv z d else ds.any fun z => PyData.eqv z d)) H
theorem op_inTG {X : Cx} {K : PySem.W.Frag} (hK : X.K = K) (hu : X.A.units + 65 < cLine) : OpR X (compareOp .In) (rInG K false) := by
  subst hK
  intro pins s σ H x y v u Q I rx ry h
  rcases h with h | ⟨d, ds, hd, he, sd, se, q⟩
  · exact op_in_seq pins s σ H x y v u Q I rx ry h
  obtain ⟨as, r1⟩ := Dp.reads I d x v hd rx
  obtain ⟨bs, r2⟩ := Dp.reads I (.tuple ds) y u he ry
  exact SeqAt.in_tuple_reads r2 r1 (SeqAt.canLay_of_shaped se) (SeqAt.canLay_of_shaped sd) (room_in_shaped sd hu) ⟨.bl _, H, I, rfl, q⟩
theorem op_ninTG {X : Cx} {K : PySem.W.Frag} (hK : X.K = K) (hu : X.A.units + 65 < cLine) : OpR X (compareOp .NotIn) (rInG K true) := by
  subst hK
  intro pins s σ H x y v u Q I rx ry h
  rcases h with h | ⟨d, ds, hd, he, sd, se, q⟩
  · exact op_notIn_seq pins s σ H x y v u Q I rx ry h
  obtain ⟨as, r1⟩ := Dp.reads I d x v hd rx
  obtain ⟨bs, r2⟩ := Dp.reads I (.tuple ds) y u he ry
  exact SeqAt.notIn_tuple_reads r2 r1 (SeqAt.canLay_of_shaped se) (SeqAt.canLay_of_shaped sd) (room_in_shaped sd hu) ⟨.bl _, H, I, rfl, q⟩
end G
namespace G
open PySem PySem.Spec PySem.Calls PyProof.Rows L2 He
theorem hu65 {k : Nat} {A : Around} (r : Room k A) : A.units + 65 < cLine := by have := r.un; omega
theorem hu65N {k : Nat} {A : Around} (r : RoomN k A) : A.units + 65 < cLine := by have := r.un; omega
end G
namespace G
open PySem PySem.Spec PySem.Calls PyProof.Rows L2 He
/-! ### two named except clauses -/
section
variable {X : Cx} {x x2 n : Str} {c c2 : Value} {i : Nat} {body suite suite2 : List Stmt} {b0 b2 : Stmt} {np np2 pos pos' pos2' : Pos} {tb : WX → TS} {ts ts2 : TS} {Wo : WX}
theorem ps_tryT2 (hs : X.stack = X.env :: X.outer) (hf : X.env.frame = some X.env.locals) (hex : X.ex = []) (hN : X.N.Nodup) (hi : X.N[i]? = some n) (hln : X.env.kindOf n = some .local) (hc : Names X x c) (hc2 : Names X x2 c2) (tk : Takes X Wo)
    (hb : ∀ (W : WX) (pn : List (Addr × Obj)) (xe : Value → Shared → Prop), Takes (X.tr pn xe) W → PassesOwn (model X.prog X.w) X.A X.env xe → PSs (X.tr pn xe) body (tb W))
    (hsu : ∀ (a : Addr) (pn : List (Addr × Obj)), PSs (X.suite a pn) (b0 :: suite) ts) (hsu2 : ∀ (a : Addr) (pn : List (Addr × Obj)), PSs (X.suite a pn) (b2 :: suite2) ts2) :
    PS X (.Try body [.ExceptHandler (some (.Name x np)) (some n) (b0 :: suite) pos', .ExceptHandler (some (.Name x2 np2)) (some n) (b2 :: suite2) pos2'] [] [] pos) (fun D σ H => tb (wTr X.K c i ts (wTr X.K c2 i ts2 Wo D) D) D σ H) := by
  refine ⟨fun pins s σ H D I h => ?_⟩
  have ok := I.ok
  have hfr : X.A.frames = some (X.env :: X.outer) := by rw [ok.frames, hs]
  have lo : Loc X.env.scope n := .inl hln
  let rest : List ExceptHandler := [.ExceptHandler (some (.Name x np)) (some n) (b0 :: suite) pos', .ExceptHandler (some (.Name x2 np2)) (some n) (b2 :: suite2) pos2']
  let M := model X.prog X.w
  let wish : Value → Shared → Prop := fun e u1 => wpAny M X.A (noteFrame e X.env) (fun _ u2 => wpAny M X.A (setFlight e none) (fun _ u3 => wpAny M X.A (handleBy e X.env rest) (SP X pins D) X.xe u3) X.xe u2) X.xe u1
  refine wpAny_Try_except (wpAny_mono ((hb (wTr X.K c i ts (wTr X.K c2 i ts2 Wo D) D) (X.pn ++ pins) wish (fun u s' air => ?_) PassesOwn.looking).run [] s σ H D (I.toTry _) h) (fun fl s1 hsp => ?_) (fun e s1 he => he))
  · obtain ⟨a, B, sg, pi', σ1, H1, cls, d, rfl, Jt, nb, up, sky, na, os, ag, b, e1, yes, no⟩ := air
    have J : Inv X pins σ1 H1 sg := Jt.ofTry ok
    have sky' : Sky B (X.env :: X.outer) a (Zc cls d) X.env.locals s'.heap := by rw [← hs]; exact sky
    show wpAny M X.A (noteFrame (.ref a) X.env) _ _ _
    refine Sky.land Zc.steady hfr hf sky' fun h3 fl3 up3 => ?_
    have u3 := up.trans up3
    have J3 : Inv X pins σ1 H1 { s' with heap := h3 } := J.landed nb fl3.1 u3 os ag
    obtain ⟨o3, f3, g3, z3, d3⟩ := fl3.there
    have nfr : a ∉ frs (X.env :: X.outer) := fun hm => by
      obtain ⟨-, o', g', nf⟩ := fl3.2.2.1.mem hm
      rw [g3] at g'
      cases g'
      exact nf _ d3
    have nL : a ≠ X.env.locals := fun z => nfr (List.mem_filterMap.mpr ⟨X.env, List.mem_cons_self, by rw [hf, z]⟩)
    have nst : a ∉ frs X.stack := by rw [hs]; exact nfr
    have nB : B.get? a = none := fl3.2.1
    have ng : sg.heap.get? a = none := by
      cases e : sg.heap.get? a with
      | none => rfl
      | some o =>
        rw [nb a o e nst] at nB
        cases nB
    have n0 : X.s_0.heap.get? a = none := by
      cases e : X.s_0.heap.get? a with
      | none => rfl
      | some o =>
        obtain ⟨o', q⟩ := J.base.there a o e (by rw [hex]; exact List.not_mem_nil)
        rw [ng] at q
        cases q
    have nC : ∀ y z, X.env.cells.lookup y = some z → z ≠ a := fun y z e q => by
      obtain ⟨v, ob, e2, -⟩ := J.cell y z e
      rw [q, ng] at e2
      cases e2
    have nP : ∀ p ∈ X.pn ++ pins, p.1 ≠ a := fun p hp q => by
      have e2 := (J.pin p hp).1
      rw [q, ng] at e2
      cases e2
    have S3 := toSuite J3 a
    refine wpAny_handleBy_cons (codeAny_handlers_test ?_) (by intro q; cases q)
    have LT : PySem.W.Looks M h3 (typeOf (.ref a)) cls := fun _ _ _ _ k q => wpAny_typeOf_ref (k _ _ g3) (by rw [z3.1]; exact q)
    have LM := PySem.W.exm_one (M := M) J3.kIn LT e1
    have test : ∀ {Q : Value → Shared → Prop} {E : Value → Shared → Prop}, Q c { s' with heap := h3 } → wpAny M (X.A.mark (some (.ref a))) (eval (.Name x np) X.env) Q E { s' with heap := h3 } := fun {Q E} q => by
      obtain ⟨hg, hdb, hm | ⟨hm, hv, hnn⟩⟩ := hc
      · exact ld_glob (X := X.suite a (X.pn ++ pins)) S3 hg hm q hdb
      · exact ld_blt (X := X.suite a (X.pn ++ pins)) S3 hg hm hv q hnn hdb
    refine test (LM.here ?_)
    cases b with
    | true =>
      refine codeAny_handlers_suite_as (HandSPX.lands_againZ fl3 fun h4 fl4 up4 => ?_)
      have J4 : Inv X pins σ1 H1 { s' with heap := h4 } := J.landed nb fl4.1 (u3.trans up4) os ag
      obtain ⟨o4, f4, g4, z4, d4⟩ := fl4.there
      obtain ⟨ed, go⟩ := yes rfl
      subst ed
      have J5 := track (u := ExA cls a) J4 na n0 nL nC nP (exA_ok g4 z4 d4)
      refine store_ok (X := X.suite a (X.pn ++ pins)) (v := .ref a) (toSuite J5 a) hN hi lo rfl (fun s5 S5 => ?_) (.inr hln)
      refine wpAny_mono ((hsu a (X.pn ++ pins)).run [] s5 _ _ _ S5 (go a na)) (fun fl s6 hsp => ?_) (fun _ _ z => False.elim z)
      have out : ∀ {σ6 : L2.St} {H6 : Hp} {Q : Shared → Prop}, Inv (X.suite a (X.pn ++ pins)) [] σ6 H6 s6 → (∀ s7, Inv X pins (σ6.set i none) H6 s7 → Q s7) →
          wpAny M X.A (do bindName X.env n .none; unbindBehindTheSuite X.env n pos') (fun _ s7 => Q s7) X.xe s6 := fun S6 hq => gone_ok (ofSuite ok S6) hN hi hln hq
      cases fl with
      | next => exact hsp.elim fun _ z => z.elim fun _ q => out q.1 fun s7 J7 => ⟨_, _, J7, q.2⟩
      | brk => exact hsp.elim fun _ z => z.elim fun _ q => out q.1 fun s7 J7 => ⟨_, _, J7, q.2⟩
      | cont => exact hsp.elim fun _ z => z.elim fun _ q => out q.1 fun s7 J7 => ⟨_, _, J7, q.2⟩
      | ret u =>
        obtain ⟨v6, σ6, H6, S6, r6, q6⟩ := hsp
        exact out S6 fun s7 J7 => ⟨_, _, _, J7, r6, q6⟩
    | false =>
      obtain ⟨b', e1', yes', no'⟩ := no rfl
      refine wpAny_handleBy_cons (codeAny_handlers_test ?_) (by intro q; cases q)
      have LM2 := PySem.W.exm_one (M := M) J3.kIn LT e1'
      have test2 : ∀ {Q : Value → Shared → Prop} {E : Value → Shared → Prop}, Q c2 { s' with heap := h3 } → wpAny M (X.A.mark (some (.ref a))) (eval (.Name x2 np2) X.env) Q E { s' with heap := h3 } := fun {Q E} q => by
        obtain ⟨hg, hdb, hm | ⟨hm, hv, hnn⟩⟩ := hc2
        · exact ld_glob (X := X.suite a (X.pn ++ pins)) S3 hg hm q hdb
        · exact ld_blt (X := X.suite a (X.pn ++ pins)) S3 hg hm hv q hnn hdb
      refine test2 (LM2.here ?_)
      cases b' with
      | true =>
        refine codeAny_handlers_suite_as (HandSPX.lands_againZ fl3 fun h4 fl4 up4 => ?_)
        have J4 : Inv X pins σ1 H1 { s' with heap := h4 } := J.landed nb fl4.1 (u3.trans up4) os ag
        obtain ⟨o4, f4, g4, z4, d4⟩ := fl4.there
        obtain ⟨ed, go⟩ := yes' rfl
        subst ed
        have J5 := track (u := ExA cls a) J4 na n0 nL nC nP (exA_ok g4 z4 d4)
        refine store_ok (X := X.suite a (X.pn ++ pins)) (v := .ref a) (toSuite J5 a) hN hi lo rfl (fun s5 S5 => ?_) (.inr hln)
        refine wpAny_mono ((hsu2 a (X.pn ++ pins)).run [] s5 _ _ _ S5 (go a na)) (fun fl s6 hsp => ?_) (fun _ _ z => False.elim z)
        have out : ∀ {σ6 : L2.St} {H6 : Hp} {Q : Shared → Prop}, Inv (X.suite a (X.pn ++ pins)) [] σ6 H6 s6 → (∀ s7, Inv X pins (σ6.set i none) H6 s7 → Q s7) →
            wpAny M X.A (do bindName X.env n .none; unbindBehindTheSuite X.env n pos2') (fun _ s7 => Q s7) X.xe s6 := fun S6 hq => gone_ok (ofSuite ok S6) hN hi hln hq
        cases fl with
        | next => exact hsp.elim fun _ z => z.elim fun _ q => out q.1 fun s7 J7 => ⟨_, _, J7, q.2⟩
        | brk => exact hsp.elim fun _ z => z.elim fun _ q => out q.1 fun s7 J7 => ⟨_, _, J7, q.2⟩
        | cont => exact hsp.elim fun _ z => z.elim fun _ q => out q.1 fun s7 J7 => ⟨_, _, J7, q.2⟩
        | ret u =>
          obtain ⟨v6, σ6, H6, S6, r6, q6⟩ := hsp
          exact out S6 fun s7 J7 => ⟨_, _, _, J7, r6, q6⟩
      | false =>
        show wpAny M X.A (handleBy (.ref a) X.env []) _ _ _
        refine wpAny_handleBy_nil ?_
        obtain ⟨-, -, -, oe, vs, T, oT, ts', he, hz, hd, h1, hr⟩ := id fl3
        unfold PySem.passOn
        refine wpAny_bind (wpAny_field he hd h1 ?_)
        rw [if_neg (show ¬ ((Value.ref T == Value.none) = true) from by simp)]
        have fin : wpAny M X.A (setFlight (.ref a) X.env.frame) (fun _ u4 => wpAny M X.A (throw (.ref a) : Sem Flow) (SP X pins D) X.xe u4) X.xe { s' with heap := h3 } := by
          rw [hf]
          refine HandSPX.setFlight_upZ fl3 fun h4 hh4 up4 => wpAny_throw (tk _ _ ?_)
          exact ⟨a, B, sg, pins, σ1, H1, cls, d, rfl, J, nb, u3.trans up4, .inr (.inr (by rw [hs]; exact hh4)), na, os, ag, no' rfl⟩
        first
          | exact wpAny_bind (wpAny_pure (wpAny_bind fin))
          | exact wpAny_bind fin
  · cases fl with
    | next => exact hsp.elim fun σ1 z => z.elim fun H1 q => wpAny_execs_nil ⟨σ1, H1, q.1.ofTry ok, q.2⟩
    | brk => exact hsp.elim fun σ1 z => z.elim fun H1 q => ⟨σ1, H1, q.1.ofTry ok, q.2⟩
    | cont => exact hsp.elim fun σ1 z => z.elim fun H1 q => ⟨σ1, H1, q.1.ofTry ok, q.2⟩
    | ret u =>
      obtain ⟨v, σ1, H1, J, r, q⟩ := hsp
      exact ⟨v, σ1, H1, J.ofTry ok, r, q⟩
end

section
variable {fa : List Fa} {fn : List DefD} {xl : XL} {K : PySem.W.Frag} {mg : Str → Option Value}
theorem Told.missed (T : Told fa fn xl K mg) {d c : Str} {i : Nat} {ts : TS} {Wo : WX} {D : Ends} {σ : L2.St} {H : Hp} (hd : d ∈ xl.ex) (hc : c ∈ xl.ex) (hu : under d c = false) (h : Wo (.ref (ga K d)) none σ H) :
    wTr K (.ref (ga K c)) i ts Wo D (.ref (ga K d)) none σ H :=
  ⟨false, by rw [((T.err hd).2.2 c hc).2, hu], (fun z => by cases z), (fun _ => h)⟩
theorem Told.caughtU (T : Told fa fn xl K mg) {d c : Str} {ts : Addr → Value → Option Addr → TS} {r : List (Value × (Addr → Value → Option Addr → TS))} {Wo : WX} {D : Ends} {σ : L2.St} {H : Hp} (hd : d ∈ xl.ex) (hc : c ∈ xl.ex) (hu : under d c = true)
    (h : ∀ a, H a = none → ts a (.ref (ga K d)) none D σ H) : wMany K Wo D ((.ref (ga K c), ts) :: r) (.ref (ga K d)) none σ H :=
  ⟨true, by rw [((T.err hd).2.2 c hc).2, hu], (fun _ => h), (fun z => by cases z)⟩
theorem Told.missedU (T : Told fa fn xl K mg) {d c : Str} {ts : Addr → Value → Option Addr → TS} {r : List (Value × (Addr → Value → Option Addr → TS))} {Wo : WX} {D : Ends} {σ : L2.St} {H : Hp} (hd : d ∈ xl.ex) (hc : c ∈ xl.ex) (hu : under d c = false)
    (h : wMany K Wo D r (.ref (ga K d)) none σ H) : wMany K Wo D ((.ref (ga K c), ts) :: r) (.ref (ga K d)) none σ H :=
  ⟨false, by rw [((T.err hd).2.2 c hc).2, hu], (fun z => by cases z), (fun _ => h)⟩
end
end G
namespace G
open PySem PySem.Spec PySem.Calls PyProof.Rows L2 He
/-! ### for k in d -/
def LockW (t : TS) (D : Ends) (σ : L2.St) (H : Hp) : Prop := tLock t D σ H
section
variable {t : TS} {D : Ends} {σ : L2.St} {H : Hp} {d : Addr} {kvs : List (Key × V)} {td : TE} {R : It → Hp → Prop} {o : Obj} {g : TG} {tb : TS}
theorem x_lock : tLock t D σ H = LockW t D σ H := rfl
theorem lockD (hd : H d = some (.dK kvs)) (h : ∀ od, t ⟨fun σ' H' => H' d = some (.frz od (.dK kvs)) ∧ D.nx σ' (upd H' d (.dK kvs)), fun v H' => H' d = some (.frz od (.dK kvs)) ∧ D.rt v (upd H' d (.dK kvs)), fun σ' H' => H' d = some (.frz od (.dK kvs)) ∧ D.bk σ' (upd H' d (.dK kvs)), fun σ' H' => H' d = some (.frz od (.dK kvs)) ∧ D.ct σ' (upd H' d (.dK kvs))⟩ σ (upd H d (.frz od (.dK kvs)))) : LockW t D σ H := ⟨d, _, hd, trivial, h⟩
theorem x_keys : iKeys td σ H R = td σ H fun x H1 => ∃ d o, x = .ref d ∧ ((∃ kvs, H1 d = some (.frz o (.dK kvs)) ∧ R (Itk d o kvs) H1) ∨ ∃ kvs, H1 d = some (.frz o (.dT kvs)) ∧ R (Itkt d o kvs) H1) := rfl
theorem forW_keys (Pv : Nat → L2.St → Hp → Prop) (h0 : Pv 0 σ H) (hG : ∀ i σ H, i ≤ kvs.length → Pv i σ H → H d = some (.frz o (.dK kvs)))
    (hs : ∀ i k v σ H, kvs[i]? = some (k, v) → Pv i σ H → g (kV k) σ H fun σ2 H2 => tb { D with nx := Pv (i + 1), ct := Pv (i + 1), bk := D.nx } σ2 H2) (hd : ∀ σ H, Pv kvs.length σ H → D.nx σ H) : ForW (Itk d o kvs) g tb D σ H :=
  for_it walk_keys Pv h0 hG (fun i x σ H H' hi p y => by
    obtain ⟨rfl, k, v, e, rfl⟩ := y
    exact hs i k v σ _ e p) hd
theorem dget_f {i : Int} (h : H d = some (.frz o (.dK kvs))) : DGet H d (.int i) (valV kvs (.inl i : Key)) := .inl ⟨kvs, .inl i, .inr ⟨o, h⟩, rfl, rfl⟩
end
end G
namespace G
open PySem PySem.Spec PySem.Calls PyProof.Rows L2 He
/-! ### == of dicts, dict(d), xs.pop(i) -/
section
variable {X : Cx} {σ : L2.St} {H : Hp} {Q : VK}
def gEqDD : R2 := fun x y H Q => ∃ a b kvs kvs', x = .ref a ∧ y = .ref b ∧ H a = some (.dK kvs) ∧ H b = some (.dK kvs') ∧ ((kvs = kvs' ∧ (kvs.map (·.1)).Nodup ∧ (∀ p ∈ kvs, flatB p.2 = true) ∧ Q (.bl true) H) ∨ (kvs.length ≠ kvs'.length ∧ Q (.bl false) H))
def gNeDD : R2 := fun x y H Q => ∃ a b kvs kvs', x = .ref a ∧ y = .ref b ∧ H a = some (.dK kvs) ∧ H b = some (.dK kvs') ∧ ((kvs = kvs' ∧ (kvs.map (·.1)).Nodup ∧ (∀ p ∈ kvs, flatB p.2 = true) ∧ Q (.bl false) H) ∨ (kvs.length ≠ kvs'.length ∧ Q (.bl true) H))
theorem op_eqDD (hu : X.A.units < cLine) : OpR X (compareOp .Eq) gEqDD := by
  intro pins s σ H x y v u Q I rx ry h
  obtain ⟨a, b, kvs, kvs', rfl, rfl, ea, eb, h⟩ := h
  obtain rfl : v = Value.ref a := rx
  obtain rfl : u = Value.ref b := ry
  obtain ⟨_, ya, va, ra, da⟩ := (show ObjOk X.prog X.w H s.heap a (.dK kvs) from I.hok a _ ea)
  obtain ⟨_, yb, vb, rb, db⟩ := (show ObjOk X.prog X.w H s.heap b (.dK kvs') from I.hok b _ eb)
  rcases h with ⟨rfl, nd, fl, q⟩ | ⟨ne, q⟩
  · have hl : va.length = vb.length := ra.length.symm.trans rb.length
    exact PySem.W.keq_eq (knd := mixKind X.prog X.w) (r := true) ya yb da db hu (fun _ => hits_all rb ra fun p hp => ⟨val_nodup nd p hp, fl p hp⟩) (fin_bl I q (by simp [hl]))
  · have hl : va.length ≠ vb.length := fun z => ne (ra.length.trans (z.trans rb.length.symm))
    exact PySem.W.keq_eq (knd := mixKind X.prog X.w) (r := true) ya yb da db hu (fun z => absurd z hl) (fin_bl I q (by simp [hl]))
theorem op_neDD (hu : X.A.units < cLine) : OpR X (compareOp .NotEq) gNeDD := by
  intro pins s σ H x y v u Q I rx ry h
  obtain ⟨a, b, kvs, kvs', rfl, rfl, ea, eb, h⟩ := h
  obtain rfl : v = Value.ref a := rx
  obtain rfl : u = Value.ref b := ry
  obtain ⟨_, ya, va, ra, da⟩ := (show ObjOk X.prog X.w H s.heap a (.dK kvs) from I.hok a _ ea)
  obtain ⟨_, yb, vb, rb, db⟩ := (show ObjOk X.prog X.w H s.heap b (.dK kvs') from I.hok b _ eb)
  rcases h with ⟨rfl, nd, fl, q⟩ | ⟨ne, q⟩
  · have hl : va.length = vb.length := ra.length.symm.trans rb.length
    exact PySem.W.keq_ne (knd := mixKind X.prog X.w) (r := true) ya yb da db hu (fun _ => hits_all rb ra fun p hp => ⟨val_nodup nd p hp, fl p hp⟩) (fin_bl I q (by simp [hl]))
  · have hl : va.length ≠ vb.length := fun z => ne (ra.length.trans (z.trans rb.length.symm))
    exact PySem.W.keq_ne (knd := mixKind X.prog X.w) (r := true) ya yb da db hu (fun z => absurd z hl) (fin_bl I q (by simp [hl]))
theorem r_eqDD {a b : Addr} {kvs : List (Key × V)} (h1 : H a = some (.dK kvs)) (h2 : H b = some (.dK kvs)) (nd : (kvs.map (·.1)).Nodup) (fl : ∀ p ∈ kvs, flatB p.2 = true) (q : Q (.bl true) H) : gEqDD (.ref a) (.ref b) H Q := ⟨a, b, kvs, kvs, rfl, rfl, h1, h2, .inl ⟨rfl, nd, fl, q⟩⟩
theorem r_neDD {a b : Addr} {kvs : List (Key × V)} (h1 : H a = some (.dK kvs)) (h2 : H b = some (.dK kvs)) (nd : (kvs.map (·.1)).Nodup) (fl : ∀ p ∈ kvs, flatB p.2 = true) (q : Q (.bl false) H) : gNeDD (.ref a) (.ref b) H Q := ⟨a, b, kvs, kvs, rfl, rfl, h1, h2, .inl ⟨rfl, nd, fl, q⟩⟩
theorem r_eqDL {a b : Addr} {kvs kvs' : List (Key × V)} (h1 : H a = some (.dK kvs)) (h2 : H b = some (.dK kvs')) (ne : kvs.length ≠ kvs'.length) (q : Q (.bl false) H) : gEqDD (.ref a) (.ref b) H Q := ⟨a, b, kvs, kvs', rfl, rfl, h1, h2, .inr ⟨ne, q⟩⟩
def rDictD : List V → Hp → VK → Prop := fun xs H Q => ∃ (a : Addr) (kvs : List (Key × V)), xs = [.ref a] ∧ Rd H a (.dK kvs) ∧ ∀ p, H p = none → Q (.ref p) (upd H p (.dK kvs))
theorem call_dictDK : CallR X (.type "dict") rDictD := call_dictD
theorem r_isiD {a : Addr} {kvs : List (Key × V)} (h : H a = some (.dK kvs)) (q : Q (.bl true) H) : gIsi [.ref a, .ty "dict"] H Q := r_isi (t := "dict") (by show tyO (H a) = _; rw [h]; rfl) q
def rLenDD : List V → Hp → VK → Prop := fun xs H Q => ∃ a kvs, xs = [V.ref a] ∧ H a = some (.dK kvs) ∧ Q (.int kvs.length) H
theorem call_lenDD : CallR X (.builtin "len") rLenDD := call_lenD
theorem r_lenDD {a : Addr} {kvs : List (Key × V)} (h : H a = some (.dK kvs)) (q : Q (.int (kvs.length : Int)) H) : rLenDD [.ref a] H Q := ⟨_, _, rfl, h, q⟩
theorem r_popAt {a : Addr} {xs : List V} {i : Nat} {y : V} (h : H a = some (.lst xs)) (hi : xs[i]? = some y) (hs : xs.length ≤ sizeLine) (q : Q y (upd H a (.lst (xs.eraseIdx i)))) : rPopAt (.ref a) [.int (i : Int)] H Q := by
  have hl := (List.getElem?_eq_some_iff.mp hi).1
  have sz := sizeLine_eq
  refine ⟨a, xs, _, i, y, rfl, rfl, h, by omega, by omega, ?_, hi, q⟩
  unfold seqIndex?
  simp only [if_neg (show ¬ ((i : Int) < 0) by omega)]
  rw [if_pos (by rw [Bool.and_eq_true, decide_eq_true_eq, decide_eq_true_eq]; omega), Int.toNat_natCast]
theorem cutV_one {xs : List V} : cutV xs (some 1) none = xs.drop 1 := by
  have e : HT.sIx xs.length 0 (some 1) = min 1 xs.length := HT.sIx_nat _ _ 1
  unfold cutV
  rw [e, HT.sIx_none]
  cases xs with
  | nil => rfl
  | cons x r =>
    have e : min 1 (x :: r).length = 1 := by rw [List.length_cons]; omega
    rw [e]
    show (r.take (r.length + 1 - 1)) = r
    rw [Nat.add_sub_cancel, List.take_length]
/-! ### zip -/
theorem x_zip {ta : TA} {R : It → Hp → Prop} {K : PySem.W.Frag} : iZip K ta σ H R = ta σ H fun vs H1 => ∃ a b xs ys, vs = [.ref a, .ref b] ∧ SqL K H1 a xs ∧ SqL K H1 b ys ∧ R (Itz K a b) H1 := rfl
theorem forW_zip {K : PySem.W.Frag} {g : TG} {tb : TS} {D : Ends} {a b : Addr} {xs ys : List V} (Pv : Nat → L2.St → Hp → Prop) (h0 : Pv 0 σ H) (hG : ∀ i σ H, i ≤ min xs.length ys.length → Pv i σ H → SqL K H a xs ∧ SqL K H b ys)
    (hs : ∀ i x y T σ H, xs[i]? = some x → ys[i]? = some y → H T = none → Pv i σ H → g (.ref T) σ (upd H T (.tup [x, y])) fun σ2 H2 => tb { D with nx := Pv (i + 1), ct := Pv (i + 1), bk := D.nx } σ2 H2) (hd : ∀ σ H, Pv (min xs.length ys.length) σ H → D.nx σ H) : ForW (Itz K a b) g tb D σ H :=
  for_it (walk_zip rfl) Pv h0 hG (fun i x σ H H' hi p y => by
    obtain ⟨T, u, v, rfl, nT, rfl, e1, e2⟩ := y
    exact hs i u v T σ H e1 e2 nT p) hd
end
end G
namespace G
open PySem PySem.Spec PySem.Calls PyProof.Rows L2 He
/-! ### a comprehension whose item may raise -/
/-- what is wanted behind a block that began in env: an error goes on in env's frame -/
def PostX (M : Model) (A : Around) (E : Value → Shared → Prop) (env : Env) (Q : Value → Shared → Prop) (acc : Value) (C : Addr) : Result → Shared → Prop
  | .ok _, t => ∃ m, t.heap.Ns C m ∧ ∀ h', Heap.SameBut C t.heap h' → Q acc { t with heap := h' }
  | .error x, t => ∃ m, t.heap.Ns C m ∧ ∀ h', Heap.SameBut C t.heap h' → ∀ ce : Env, ce.locals = C → ce.frame = env.frame → wpAny M A (PySem.passOn "comprehension.variables-let-go" x ce : Sem Value) (fun _ _ => False) E { t with heap := h' }
section
variable {M : Model} {A : Around} {E : Value → Shared → Prop} {s : Shared} {env : Env}
theorem compX {e : Expr} {scope : Scope} {pos : Pos} {new fst : Sem Value} {g : Comprehension} {gs : List Comprehension} {cl : List (Str × Addr)} {Q : Value → Shared → Prop}
    (c1 : clausesOf e = g :: gs) (c2 : ∀ x, foldedSetIterable g.iter env x = pure x) (c3 : closureFor scope env = pure cl) (c4 : scope.kind = .function) (c5 : ∀ x ∈ scope.names, x.2 = .local → scope.names.lookup x.1 = some .local)
    (c6 : wpAny M A fst (fun x s1 => wpAny M A (pyIter x) (fun it s2 => wpAny M A new (fun acc s3 => wpAny M A (newFunctionEnv scope env.globals cl [] env.qual none .none (some env)) (fun ce s4 => ce.frame = env.frame ∧
        codeAny M A (.compStart e 0 it acc { ce with scope := relabel scope env }) (PostX M A E env Q acc ce.locals) s4) E s3) E s2) E s1) E s) :
    wpAny M A (comprehension e scope env pos new false fst none) Q E s := by
  have again : ∀ {α : Type} {m : Sem α} {R R' : α → Shared → Prop} {t : Shared}, wpAny M A m R E t → (∀ a u, R a u → R' a u) → wpAny M A m R' E t := fun k f => wpAny_mono k f fun _ _ z => z
  unfold comprehension
  rw [c3, c1]
  refine wpAny_bind (again c6 fun x s1 k1 => wpAny_bind (wpAny_standAt (wpAny_bind (wpAny_of_eq (c2 x) (wpAny_bind (wpAny_holding (again k1 fun it s2 k2 => ?_)))))))
  refine wpAny_standIf (wpAny_bind (again k2 fun acc s3 k3 => wpAny_bind (wpAny_pure (wpAny_bind (again k3 fun ce s4 k4 => ?_)))))
  obtain ⟨fr, k4⟩ := k4
  dsimp only
  have see : ∀ y ∈ (scope.names.filter fun y => (y.2 == .local || y.2 == .cell) && y.1 != (".0" : Str)).reverse, y.2 = .local → Env.kindOf { ce with scope := relabel scope env } y.1 = some .local := fun y hy hl =>
    lookup_relabel_local (c5 y (List.mem_filter.mp (List.mem_reverse.mp hy)).1 hl)
  refine wpAny_holding (wpAny_bind (wpAny_attempt (wpAny_holding (wpAny_run (codeAny_mono k4 fun r t k5 => ?_)))))
  cases r with
  | ok f =>
    obtain ⟨m, n5, k6⟩ := k5
    exact wpAny_bind (wpAny_holding (wpAny_comp_letGo (cenv := { ce with scope := relabel scope env }) c4 _ t m see n5 fun h' m' _ z => wpAny_pure (k6 h' z)))
  | error x =>
    obtain ⟨m, n5, k6⟩ := k5
    exact wpAny_bind (wpAny_holding (wpAny_comp_letGo (cenv := { ce with scope := relabel scope env }) c4 _ t m see n5 fun h' m' _ z => wpAny_mono (k6 h' z _ rfl fr) (fun _ _ f => f.elim) fun _ _ y => y))
end
section
variable {M : Model} {A : Around} {E : Value → Shared → Prop} {s : Shared} {Z : Obj → Prop} {base : Heap} {env : Env} {outer : List Env} {L e : Addr}
/-- a frame is noted behind another one -/
theorem look_fromZ {fl : Value} {Q : Unit → Shared → Prop} (hZ : HandSPX.Steady Z) (fr : A.frames = some (env :: outer)) (ef : env.frame = some L) (b1 : base.StaysIn s.heap) (b2 : base.get? e = none) (b3 : s.heap.FunFrames base (env :: outer))
    (tr : HandSPX.TracedZ s.heap base e Z fl) (ne : (fl == rawInt L) = false) (hQ : ∀ h', HandSPX.HeldZ base (env :: outer) e Z L h' → s.heap.UpToSlots h' → Q () { s with heap := h' }) : wpAny M A (noteFrame (.ref e) env) Q E s := by
  obtain ⟨oe, vs, T, oT, ts, he, hz, hd, h1, hnT, hTe, hT, hdT, h3⟩ := tr
  unfold noteFrame
  simp only [ef]
  refine wpAny_bind (wpAny_field he hd h1 ?_)
  rw [if_pos (by simp : (Value.ref T != Value.none) = true)]
  refine wpAny_bind (wpAny_field hT hdT h3 ?_)
  rw [if_neg (by rw [ne]; exact Bool.false_ne_true : ¬ ((fl == rawInt L) = true))]
  refine wpAny_bind (wpAny_setField hT hdT (Array.getElem?_eq_some_iff.mp h3).1 ?_)
  have off : ∀ b, b ≠ T → (s.heap.update T (Obj.mapFields (·.setIfInBounds 3 Value.none))).get? b = s.heap.get? b := fun b n => Heap.get?_update_other _ _ n.symm
  have plain : ∀ b o, s.heap.get? b = some o → (∀ v, o.data ≠ .fields v) → b ≠ T := fun b o g n q => by
    rw [q, hT] at g
    cases g
    exact n ts hdT
  refine HandSPX.wpAny_entryZ hZ fr (b3.of_keeps fun b o g n => ⟨o, (off b (plain b o g n)).trans g, rfl⟩) ef ((off e hTe.symm).trans he)
    (fun b o g => (off b fun q => by rw [q, hnT] at g; cases g).trans (b1 b o g)) b2 hd (Array.getElem?_eq_some_iff.mp h1).1 hz fun h' nt => ?_
  obtain ⟨x1, x2, x3, x4⟩ := nt
  exact hQ h' ⟨x1, b2, x2, x3⟩ fun b o g n => x4 b o ((off b (plain b o g n)).trans g) n
theorem funFrames_off {base base' h h' : Heap} {C : Addr} (k : ∀ b o, b ≠ C → h.get? b = some o → h'.get? b = some o) (kb : ∀ b, base.get? b = none → base'.get? b = none) : ∀ {l : List Env}, h.FunFrames base l → C ∉ frs l → h'.FunFrames base' l
  | [], _, _ => trivial
  | env :: l, ff, nC => by
    obtain ⟨hk, ⟨L, o, hf, hb, ho, hd⟩, hr⟩ := ff
    have nL : L ≠ C := fun z => nC (List.mem_filterMap.mpr ⟨env, List.mem_cons_self, by rw [hf, z]⟩)
    exact ⟨hk, ⟨L, o, hf, kb L hb, k L o nL ho, hd⟩, funFrames_off k kb hr fun m => by
      obtain ⟨e, he, q⟩ := List.mem_filterMap.mp m
      exact nC (List.mem_filterMap.mpr ⟨e, List.mem_cons_of_mem _ he, q⟩)⟩
end
/-- the context of a block that may raise -/
abbrev blkX (X : Cx) (s : Shared) (H : Hp) (scope : Scope) (ce : Env) (fp : List Addr) (xe : Value → Shared → Prop) : Cx := { X.blk s H scope ce fp with xe := xe }
theorem blkX_inv {X : Cx} {s : Shared} {H : Hp} {scope : Scope} {ce : Env} {fp : List Addr} {xe : Value → Shared → Prop} {pins : List (Addr × Obj)} {σ : L2.St} {H' : Hp} {t : Shared} (I : Inv (X.blk s H scope ce fp) pins σ H' t) : Inv (blkX X s H scope ce fp xe) pins σ H' t :=
  ⟨⟨I.ok.mod, I.ok.kind, I.ok.glob, I.ok.blt, I.ok.above, I.ok.inj, I.ok.has, I.ok.cab, I.ok.hd, I.ok.frames, I.ok.stk, I.ok.exf, I.ok.bs, I.ok.bsz, I.ok.noex, I.ok.exfs, I.ok.funs, I.ok.frf⟩, I.os, I.bare, I.base, I.loc, I.cell, I.free, I.freeC, I.pin, I.hok, I.len⟩
/-- an error leaves a block -/
theorem blk_err {X : Cx} {pins0 : List (Addr × Obj)} {σ : L2.St} {H3 : Hp} {s3 : Shared} {scope : Scope} {ce : Env} {fp : List Addr} {xe : Value → Shared → Prop} {Eo : XK} {Q : Value → Shared → Prop} {acc u : Value} {t : Shared} {E1 : Value → Shared → Prop}
    (hs : X.stack = X.env :: X.outer) (hf : X.env.frame = some X.env.locals) (I3 : Inv X pins0 σ H3 s3) (f3 : ∀ b ∈ fp, FpOk X pins0 H3 b) (cL : ce.locals = s3.heap.objs.size) (cf : ce.frame = X.env.frame)
    (tk : Takes X fun c d _ H => Eo c d H) (x : XE (blkX X s3 H3 scope ce fp xe) (fun c d _ H => Eo c d H) u t) :
    wpAny (model X.prog X.w) X.A (noteFrame u ce) (fun _ t' => PostX (model X.prog X.w) X.A X.xe X.env Q acc s3.heap.objs.size (.error u) t') E1 t := by
  obtain ⟨a, B, sI, pins, σ', H', cls, d, rfl, I, nb, up, sky, na, os, ag, w⟩ := x
  have fr : X.A.frames = some (X.env :: X.outer) := by rw [I3.ok.frames, hs]
  have J : Inv X pins0 σ H' sI := I3.call' (ch := fp) I.os I.base I.hok I.bare fun b hb => ⟨(f3 b hb).2.2.2.1, (f3 b hb).2.1, (f3 b hb).2.2.2.2.1, (f3 b hb).2.2.2.2.2⟩
  have free : H' ce.locals = none := I.free
  obtain ⟨m, ns, -⟩ := I.loc
  have ns : sI.heap.Ns ce.locals m := ns
  rw [cL] at free ns
  generalize hC : s3.heap.objs.size = C at free ns cL ⊢
  have fC : FpOk X pins0 H' C := I3.fpOk (Nat.le_of_eq hC) free
  have Cst : C ∉ frs X.stack := by
    rw [hs]
    intro z
    obtain ⟨v, hv, q⟩ := List.mem_filterMap.mp z
    rcases List.mem_cons.mp hv with rfl | hv
    · rw [hf] at q
      exact fC.2.1 (Option.some.inj q).symm
    · exact fC.2.2.1 (List.mem_filterMap.mpr ⟨v, hv, q⟩)
  obtain ⟨oC, es, ep, gC, rC⟩ := ns
  have bC : B.get? C = some oC := nb C oC gC Cst
  have en : (noteFrame (.ref a) ce : Sem Unit) = noteFrame (.ref a) X.env := by
    unfold noteFrame PySem.frameOf
    rw [cf]
  rw [en]
  have go : ∀ h1, HandSPX.HeldZ B (X.env :: X.outer) a (Zc cls d) X.env.locals h1 → t.heap.UpToSlots h1 → PostX (model X.prog X.w) X.A X.xe X.env Q acc C (.error (.ref a)) { t with heap := h1 } := fun h1 hh up1 => by
    obtain ⟨b1, b2, b3, oe, vs, T, oT, ts, he, hz, hd, h1', hnT, hTe, hT, hdT, h3⟩ := hh
    refine ⟨m, ⟨oC, es, ep, b1 _ _ bC, rC⟩, fun h' sb ce' e1 e2 => ?_⟩
    have aC : a ≠ C := fun z => by rw [z, bC] at b2; cases b2
    have TC : T ≠ C := fun z => by rw [z, bC] at hnT; cases hnT
    have off : ∀ b o, b ≠ C → h1.get? b = some o → h'.get? b = some o := fun b o n g => (sb.2 b n).trans g
    have hid : ∀ b, B.get? b = none → (PySem.W.hideAll B [C]).get? b = none := fun b g => by
      cases q : (PySem.W.hideAll B [C]).get? b with
      | none => rfl
      | some o => rw [PySem.W.of_hideAll _ q] at g; cases g
    have hidC : ∀ {h : Heap} {b o}, (PySem.W.hideAll h [C]).get? b = some o → b ≠ C := fun {h b o} g z => by
      rw [z, PySem.W.hideAll_none [C] (List.mem_singleton_self C)] at g
      cases g
    unfold PySem.passOn
    refine wpAny_bind (wpAny_field (off a oe aC he) hd h1' ?_)
    rw [if_neg (by simp : ¬ ((Value.ref T == Value.none) = true))]
    have fin : wpAny (model X.prog X.w) X.A (setFlight (.ref a) ce'.frame) (fun _ u4 => wpAny (model X.prog X.w) X.A (throw (.ref a) : Sem Value) (fun _ _ => False) X.xe u4) X.xe { t with heap := h' } := by
      rw [e2, hf]
      refine HandSPX.setFlight_anyZ (base := PySem.W.hideAll B [C]) (l := X.env :: X.outer) (Z := Zc cls d) (fl := rawInt X.env.locals) (fun b o g => off b o (hidC g) (b1 b o (PySem.W.of_hideAll _ g))) (funFrames_off off hid b3 (by rw [← hs]; exact Cst))
        ⟨oe, vs, T, oT, ts, off a oe aC he, hz, hd, h1', hid T hnT, hTe, off T oT TC hT, hdT, h3⟩ fun h4 k1 k2 k3 k4 => wpAny_throw (tk _ _ ?_)
      have J' : Inv X pins0 σ H' { sI with heap := PySem.W.hideAll sI.heap [C], toks := sI.toks } := J.turned (it := C) (fun b o n g => PySem.W.hideAll_get [C] g (fun z => n (List.mem_singleton.mp z))) free fC.2.1 fC.2.2.2.1 fC.2.2.2.2.1 fC.2.2.2.2.2
      refine ⟨a, PySem.W.hideAll B [C], _, pins0, σ, H', cls, d, rfl, J', fun b o g n => ?_, fun b o g nf => ?_, .inr (.inr (by rw [hs]; exact ⟨k1, hid a b2, k2, k3⟩)), na, os, ag, w⟩
      · exact PySem.W.hideAll_get [C] (nb b o (PySem.W.of_hideAll _ g) n) fun z => hidC g (List.mem_singleton.mp z)
      · have bn := hidC g
        obtain ⟨l1, g1⟩ := up b o (PySem.W.of_hideAll _ g) nf
        obtain ⟨l2, g2⟩ := up1 b _ g1 nf
        obtain ⟨l4, g4⟩ := k4 b _ (off b _ bn g2) nf
        exact ⟨l4, g4⟩
    first
      | exact wpAny_bind (wpAny_pure (wpAny_bind fin))
      | exact wpAny_bind fin
  rw [hs] at sky
  rcases sky with ⟨hB, hn, hl, oe, vs, he, hz, hd, h1⟩ | fl | hh
  · exact HandSPX.look_newZ Zc.steady fr hl hf he hB hn hd h1 hz go
  · exact HandSPX.looks_onZ Zc.steady fr hf fl go
  · obtain ⟨b1, b2, b3, b4⟩ := hh
    refine look_fromZ Zc.steady fr hf b1 b2 b3 b4 ?_ go
    have ne : ce.locals ≠ X.env.locals := by rw [cL]; exact fC.2.1
    simp [rawInt]
    exact fun z => ne (Int.ofNat.inj z)
/-- [elt for tg in iter if ..], of which elt may raise -/
theorem pe_lcX {X : Cx} {elt tg iter : Expr} {ifs : List Expr} {scope : Scope} {own : List (Str × Nat)} {pos : Pos} {wi : TI} {g : TG} {tt : TT} {te : XK → TE} {Eo : XK} (tk : Takes X fun c d _ H => Eo c d H) (es : X.stack = X.env :: X.outer) (ef : X.env.frame = some X.env.locals) (hc : X.calm = true)
    (hN : X.N.Nodup) (hi : PI X tg iter wi) (ok : BlkOk X.N X.env.scope scope own) (hg : ∀ (s : Shared) (H : Hp) (C : Addr) (cl : List (Str × Addr)) (fp : List Addr) (xe : Value → Shared → Prop), PG (blkX X s H scope (compEnvC scope cl C X.env) fp xe) tg g)
    (ht : ∀ (s : Shared) (H : Hp) (C : Addr) (cl : List (Str × Addr)) (fp : List Addr) (xe : Value → Shared → Prop), PTs (blkX X s H scope (compEnvC scope cl C X.env) fp xe) ifs tt)
    (he : ∀ (s : Shared) (H : Hp) (C : Addr) (cl : List (Str × Addr)) (fp : List Addr) (xe : Value → Shared → Prop) (E : XK), Takes (blkX X s H scope (compEnvC scope cl C X.env) fp xe) (fun c d _ H => E c d H) → PE (blkX X s H scope (compEnvC scope cl C X.env) fp xe) elt (te E))
    (hset : ∀ x, foldedSetIterable iter X.env x = pure x := by intro _; rfl) : PE X (.ListComp elt [⟨tg, iter, ifs, 0⟩] scope pos) (tLc wi g tt (te Eo) (own.map (·.2))) := by
  refine ⟨fun pins s σ H Q I h => ?_⟩
  rw [eval_ListComp]
  have clo : ∀ y ∈ scope.names, y.2 = .free → ∃ c, X.env.cells.lookup y.1 = some c := fun y hy e => (ok.free y hy e).elim (fun k => I.ok.has _ (.inl k)) fun k => I.ok.has _ (.inr k)
  refine compX rfl hset (closure_ok clo) ok.kind (fun y hy z => by rw [ok.uniq y hy, z]) (thn (hi.run pins s σ H _ I h) fun xv t1 hx => thn hx fun itv t2 h2 => ?_)
  obtain ⟨it, fp, tn, J, H2, e, I2, T, st2, f2, q⟩ := h2
  subst e
  refine wpAny_newObj_type (newEnv_comp ⟨rfl, ?_⟩) (by show 0 ≤ sizeLine; decide)
  generalize eD : t2.heap.objs.size = D
  obtain ⟨W, ⟨m0, w0⟩, turn⟩ := q D (I2.hok.fresh (Nat.le_of_eq eD))
  generalize e3 : ({ t2 with heap := t2.heap.push { cls := .type "list", data := .seq ([] : List Value).toArray } } : Shared) = t3
  have g3 : t3.heap = t2.heap.push { cls := .type "list", data := .seq ([] : List Value).toArray } := by rw [← e3]
  have I3 : Inv X pins σ (upd H2 D (.lst [])) t3 := by
    rw [← e3]
    refine I2.laid (t' := t2.toks) (fun b o g => Heap.get?_push_of_some _ g) (Nat.le_of_eq eD) ⟨Nat.zero_le _, [], 0, .nil, ?_⟩
    rw [← eD]
    exact Heap.get?_push_size _ rfl
  have lt2 : ∀ b ∈ fp, b < t2.heap.objs.size := fun b hb => let ⟨o, e, _⟩ := T.obj _ _ st2 b hb; Heap.lt_size e
  have f3 : ∀ b ∈ fp, FpOk X pins (upd H2 D (.lst [])) b ∧ b < t3.heap.objs.size := fun b hb => by
    have hl := lt2 b hb
    refine ⟨⟨?_, (f2 b hb).2⟩, by rw [g3, Heap.size_push]; exact Nat.lt_succ_of_lt hl⟩
    rw [upd_ne (by rw [← eD]; exact Nat.ne_of_lt hl)]
    exact (f2 b hb).1
  have st3 : tn 0 t3.heap := T.keep _ _ _ st2 fun b _ o g => by rw [g3]; exact Heap.get?_push_of_some _ g
  have I4 := block_start I3 ok hN f3
  have pg := hg t3 (upd H2 D (.lst [])) t3.heap.objs.size (cellsFrom (t3.heap.objs.size + 1) scope.names (cloFrom X.env.cells scope.names [])) fp
  have pt := ht t3 (upd H2 D (.lst [])) t3.heap.objs.size (cellsFrom (t3.heap.objs.size + 1) scope.names (cloFrom X.env.cells scope.names [])) fp
  have pe := he t3 (upd H2 D (.lst [])) t3.heap.objs.size (cellsFrom (t3.heap.objs.size + 1) scope.names (cloFrom X.env.cells scope.names [])) fp
  show codeAny _ _ (.compStart (.ListComp elt [⟨tg, iter, ifs, 0⟩] scope pos) 0 (.ref it) (.ref D) (compEnvC scope (cellsFrom (t3.heap.objs.size + 1) scope.names (cloFrom X.env.cells scope.names [])) t3.heap.objs.size X.env)) (PostX (model X.prog X.w) X.A X.xe X.env (EP X pins σ Q) (.ref D) t3.heap.objs.size) { t3 with heap := pushCells (t3.heap.push { cls := .type "dict", data := .dict #[] }) scope.names }
  have nfp : ∀ b ∈ fp, (upd H2 D (.lst [])) b = none := fun b hb => (f3 b hb).1.1
  generalize ece : compEnvC scope (cellsFrom (t3.heap.objs.size + 1) scope.names (cloFrom X.env.cells scope.names [])) t3.heap.objs.size X.env = ce at I4 pg pt pe ⊢
  have cL : ce.locals = t3.heap.objs.size := by subst ece; rfl
  have cf : ce.frame = X.env.frame := by subst ece; rfl
  generalize eH3 : upd H2 D (.lst []) = H3 at I3 I4 pg pt pe w0 nfp f3
  generalize e4 : ({ t3 with heap := pushCells (t3.heap.push { cls := .type "dict", data := .dict #[] }) scope.names } : Shared) = t4 at I4 ⊢
  have st4 : tn 0 t4.heap := T.keep _ _ _ st3 fun b _ o g => by rw [← e4]; exact pushCells_keeps _ _ _ _ (Heap.get?_push_of_some _ g)
  let R := PostX (model X.prog X.w) X.A X.xe X.env (EP X pins σ Q) (.ref D) t3.heap.objs.size
  let xe := notedBy (model X.prog X.w) X.A ce fun e t' => R (.error e) t'
  have tkb : Takes (blkX X t3 H3 scope ce fp xe) (fun c d _ H => Eo c d H) := fun u t x => blk_err (pins0 := pins) (xe := xe) es ef I3 (fun b hb => (f3 b hb).1) cL cf tk x
  have pg := pg xe
  have pt := pt xe
  have pe := pe xe Eo tkb
  have I4 : Inv (blkX X t3 H3 scope ce fp xe) [] (wipe σ (own.map (·.2))) H3 t4 := blkX_inv I4
  have stat : ∀ {σ' : L2.St} {H' : Hp} {t' : Shared}, Inv (blkX X t3 H3 scope ce fp xe) [] σ' H' t' → (∀ b ∈ fp, H' b = none) → ∀ b ∈ fp, FpOk (blkX X t3 H3 scope ce fp xe) [] H' b := fun {σ' H' t'} I' hn b hb =>
    ⟨hn b hb, (I'.ok.exf b hb).1, I'.ok.exfs b hb, .inl hb, fun x c e => (I'.ok.exf b hb).2 x c e, fun p hp => absurd (show p ∈ ([] : List (Addr × Obj)) ++ [] from hp) (by simp)⟩
  have loop : codeAny (model X.prog X.w) X.A (.compLoop (.ListComp elt [⟨tg, iter, ifs, 0⟩] scope pos) 0 (.ref it) (.ref D) ce) R t4 := by
    refine compLoop_any (fun n t' => ∃ i H', Inv (blkX X t3 H3 scope ce fp xe) [] (wipe σ (own.map (·.2))) H' t' ∧ tn i t'.heap ∧ (∀ b ∈ fp, H' b = none) ∧ W i n H') ?_ m0 ⟨0, H3, I4, st4, nfp, w0⟩
    rintro n t5 ⟨i, H5, I5, st5, n5, w5⟩
    rcases turn i n H5 w5 with ⟨stop, qq⟩ | ⟨go, Nx, hNx, step⟩
    · have td := T.done (blkX X t3 H3 scope ce fp xe) rfl rfl rfl hc i [] t5 _ H5 (fun _ _ => False) I5 (stat I5 n5) st5 stop
      refine thnF td fun r t6 ⟨hr, I6⟩ => ?_
      subst hr
      have I7 : Inv X pins σ H5 t6 := I3.call' (ch := fp) I6.os I6.base I6.hok I6.bare fun b hb => ⟨(f3 b hb).1.2.2.2.1, (f3 b hb).1.2.1, (f3 b hb).1.2.2.2.2.1, (f3 b hb).1.2.2.2.2.2⟩
      have nC : H5 t3.heap.objs.size = none := cL ▸ (show H5 ce.locals = none from I6.free)
      obtain ⟨m, hn, -⟩ := I6.loc
      have hn : t6.heap.Ns ce.locals m := hn
      rw [cL] at hn
      obtain ⟨a0, a1, a2, a3, a4, a5⟩ := I3.fpOk (Nat.le_refl _) nC
      exact ⟨m, hn, fun h' sb => ⟨.ref D, H5, I7.turned (t' := t6.toks) (fun b o n g => (sb.2 b n).trans g) a0 a1 a3 a4 a5, rfl, qq⟩⟩
    · have ti := T.item (blkX X t3 H3 scope ce fp xe) rfl rfl rfl hc i [] t5 _ H5 (fun _ _ => False) I5 (stat I5 n5) st5 go
      refine thnF ti fun r t6 ⟨u, hr, h6⟩ => ?_
      subst hr
      refine thnF h6 fun _ t7 ⟨x, H7, I7, r7, y7, st7, n7⟩ => ?_
      refine thn (pg.run _ t7 _ H7 x u _ (I7.pinned (stat I7 n7) (T.obj _ _ st7)) r7 (step x H7 y7)) fun _ t8 ⟨σ8, H8, I8, hw8, q8⟩ => ?_
      refine thn (pt.run _ t8 σ8 H8 _ I8 q8) fun b t9 ⟨H9, I9, q9⟩ => ?_
      have fin : ∀ {t' : Shared} {H' : Hp}, Inv (blkX X t3 H3 scope ce fp xe) ([] ++ pinsAt fp t7.heap) σ8 H' t' → Nx H' → ∃ m, m < n ∧ ∃ i H', Inv (blkX X t3 H3 scope ce fp xe) [] (wipe σ (own.map (·.2))) H' t' ∧ tn i t'.heap ∧ (∀ b ∈ fp, H' b = none) ∧ W i m H' := fun {t' H'} I' nx => by
        obtain ⟨m', hm, w'⟩ := hNx H' nx
        have pn : ∀ b ∈ fp, ∀ o, t7.heap.get? b = some o → t'.heap.get? b = some o ∧ H' b = none := fun b hb o g =>
          let z := I'.pin (b, o) (List.mem_append_right _ (List.mem_append_right _ (mem_pinsAt hb g))); ⟨z.1, z.2.1⟩
        have el : (wipe σ (own.map (·.2))).length = σ8.length := by rw [← hw8, wipe_length]
        refine ⟨m', hm, i + 1, H', (I'.unpinned (pins := [])).weak el (fun j v g => ?_), T.keep _ _ _ st7 fun b hb o g => (pn b hb o g).1, fun b hb => ?_, w'⟩
        · rw [← hw8] at g
          exact (wipe_some g).1
        · obtain ⟨o, g, _⟩ := T.obj _ _ st7 b hb
          exact (pn b hb o g).2
      cases b with
      | false =>
        simp only [Bool.false_eq_true, if_false] at q9 ⊢
        exact fin I9 q9
      | true =>
        simp only [if_true] at q9 ⊢
        refine thn (pe.run _ t9 σ8 H9 _ I9 q9) fun z t10 ⟨yv, H10, I10, r10, acc, hD10, hz10, nx⟩ => ?_
        exact app_ok (X := blkX X t3 H3 scope ce fp xe) I10 hD10 hz10 r10 fun t11 I11 => fin I11 nx
  exact codeAny_compStart_list loop (T.self X.A 0 _ _ _ st4 loop)
end G
namespace G
open PySem PySem.Spec PySem.Calls PyProof.Rows L2 He
/-! ### texts -/
/-- a text by its signs -/
abbrev Sg (l : List Nat) : Str := ⟨l.toArray⟩
theorem Sg_tl (l : List Nat) : TL.tl (Sg l) = l := rfl
theorem Sg_of (z : Str) : z = Sg (TL.tl z) := (TL.mk_tl z).symm
theorem Sg_inj {a b : List Nat} : Sg a = Sg b ↔ a = b := ⟨fun h => by have := congrArg TL.tl h; exact this, fun h => by rw [h]⟩
theorem Sg_add (a b : List Nat) : Sg a ++ Sg b = Sg (a ++ b) := TL.ext_tl (by rw [TL.tl_append])
theorem Sg_len (a : List Nat) : (Sg a).length = a.length := by rw [TL.len_tl]
theorem Sg_eq {a b : List Nat} : decide (Sg a = Sg b) = decide (a = b) := by
  by_cases h : a = b
  · rw [decide_eq_true h, decide_eq_true (Sg_inj.mpr h)]
  · rw [decide_eq_false h, decide_eq_false fun z => h (Sg_inj.mp z)]
def cutL (l : List Nat) (lo hi : Option Int) : List Nat := (l.drop (HT.sIx l.length 0 lo)).take (HT.sIx l.length l.length hi - HT.sIx l.length 0 lo)
theorem cutS_S {l : List Nat} {lo hi : Option Int} : cutS (Sg l) lo hi = Sg (cutL l lo hi) := by
  unfold cutS cutL
  rw [show (Sg l).length = l.length from Sg_len l]
theorem cutL_to {l : List Nat} {k : Nat} : cutL l none (some (k : Int)) = l.take k := by
  unfold cutL
  rw [HT.sIx_none, HT.sIx_nat, List.drop_zero, Nat.sub_zero]
  by_cases h : k ≤ l.length
  · rw [Nat.min_eq_left h]
  · rw [Nat.min_eq_right (by omega), List.take_length, List.take_of_length_le (by omega)]
theorem cutL_from {l : List Nat} {k : Nat} : cutL l (some (k : Int)) none = l.drop k := by
  unfold cutL
  rw [HT.sIx_none, HT.sIx_nat]
  by_cases h : k ≤ l.length
  · rw [Nat.min_eq_left h, List.take_of_length_le (by rw [List.length_drop]; omega)]
  · rw [Nat.min_eq_right (by omega), Nat.sub_self, List.take_zero, List.drop_eq_nil_of_le (by omega)]
theorem cutL_to1 {l : List Nat} : cutL l none (some 1) = l.take 1 := cutL_to (k := 1)
theorem cutL_from1 {l : List Nat} : cutL l (some 1) none = l.drop 1 := cutL_from (k := 1)
section
variable {X : Cx} {K : PySem.W.Frag} {σ : L2.St} {H : Hp} {Q : VK} {D : Ends} {g : TG} {tb : TS}
/-- a text so many times -/
def repL (l : List Nat) : Nat → List Nat
  | 0 => []
  | n + 1 => l ++ repL l n
theorem repL_len {l : List Nat} : ∀ {n : Nat}, (repL l n).length = n * l.length
  | 0 => by rw [Nat.zero_mul]; rfl
  | n + 1 => by
    show (l ++ repL l n).length = _
    rw [List.length_append, repL_len, Nat.succ_mul, Nat.add_comm]
theorem rep_fold : ∀ {n : Nat} {a : Array Nat} {l : List Nat}, ((List.replicate n l.toArray).foldl (· ++ ·) a).toList = a.toList ++ repL l n
  | 0, a, l => by
    rw [show repL l 0 = [] from rfl, List.append_nil]
    rfl
  | n + 1, a, l => by
    show ((List.replicate n l.toArray).foldl (· ++ ·) (a ++ l.toArray)).toList = _
    rw [rep_fold, Array.toList_append, List.append_assoc]
    rfl
def gRepS : R2
  | .str z, .int n, H, Q => 0 ≤ n ∧ n ≤ 1000 ∧ z.length ≤ 1000 ∧ Q (.str (Sg (repL (TL.tl z) n.toNat))) H
  | _, _, _, _ => False
theorem op_gRepS : OpR X (binaryOp .Mult) gRepS := by
  intro pins s σ H x y v u Q I rx ry h
  unfold gRepS at h
  split at h
  · rename_i z n
    obtain ⟨h0, h1, h2, q⟩ := h
    obtain ⟨t, rfl⟩ := rx
    obtain ⟨t', rfl⟩ := ry
    rcases Int.lt_or_le n 1 with c | c
    · obtain rfl : n = 0 := by omega
      exact PySem.P.mul_str_none (by decide) (by decide) ⟨.str Str.empty, _, I.tok _, ⟨_, rfl⟩, q⟩
    · obtain ⟨m, rfl⟩ := Int.eq_ofNat_of_zero_le h0
      refine PySem.P.mul_str (by rw [Bool.or_eq_false_iff]; exact ⟨decide_eq_false (by omega), decide_eq_false (by omega)⟩) (fun _ _ => ?_) (fun _ _ => ?_) ?_
      · have : (1000 : Int) ≤ (2 ^ 63 - 1) / (m : Int) := (Int.le_ediv_iff_mul_le (by omega)).mpr (by omega)
        omega
      · rw [Int.toNat_natCast]
        have : z.length * m ≤ 1000 * 1000 := Nat.mul_le_mul h2 (by omega)
        have sz : sizeLine = 16777216 := sizeLine_eq
        exact decide_eq_false (by omega)
      · rw [if_neg (by omega)]
        have e1 : (⟨(List.replicate m z.cps).foldl (· ++ ·) #[]⟩ : Str) = Sg (repL (TL.tl z) m) := TL.ext_tl (by
          have := rep_fold (n := m) (a := #[]) (l := z.cps.toList)
          rw [Array.toArray_toList] at this
          exact this)
        rw [Int.toNat_natCast] at q ⊢
        split
        · rename_i c2
          have e2 : z = Sg (repL (TL.tl z) m) := by
            rw [Bool.or_eq_true] at c2
            rcases c2 with c2 | c2
            · obtain rfl : m = 1 := by
                have := of_decide_eq_true c2
                omega
              exact TL.ext_tl (by show TL.tl z = TL.tl z ++ []; rw [List.append_nil])
            · have c2 : z.length = 0 := by simpa using c2
              rw [TL.len_tl] at c2
              refine TL.ext_tl ?_
              have e : (repL (TL.tl z) m).length = 0 := by rw [repL_len, c2, Nat.mul_zero]
              rw [List.eq_nil_of_length_eq_zero c2]
              rw [List.eq_nil_of_length_eq_zero c2] at e
              exact (List.eq_nil_of_length_eq_zero e).symm
          rw [← e2] at q
          exact ⟨.str z, _, I, ⟨_, rfl⟩, q⟩
        · rw [e1]
          refine ⟨?_, .str _, _, I.tok _, ⟨_, rfl⟩, q⟩
          have sz : sizeLine = 16777216 := sizeLine_eq
          have : m * (TL.tl z).length ≤ 1000 * 1000 := Nat.mul_le_mul (by omega) (by rw [← TL.len_tl]; exact h2)
          rw [Sg_len, repL_len]
          omega
  · exact h.elim
theorem r_repS {l : List Nat} {n : Int} : gRepS (.str (Sg l)) (.int n) H Q = (0 ≤ n ∧ n ≤ 1000 ∧ (Sg l).length ≤ 1000 ∧ Q (.str (Sg (repL l n.toNat))) H) := rfl
/-- a sign in a text -/
def gInS : R2 := fun x y H Q => ∃ (c : Nat) (z : Str), x = .str ⟨#[c]⟩ ∧ y = .str z ∧ Q (.bl (decide (c ∈ z.cps.toList))) H
def gNinS : R2 := fun x y H Q => ∃ (c : Nat) (z : Str), x = .str ⟨#[c]⟩ ∧ y = .str z ∧ Q (.bl (!decide (c ∈ z.cps.toList))) H
theorem op_gInS : OpR X (compareOp .In) gInS := op_in_sign
theorem op_gNinS : OpR X (compareOp .NotIn) gNinS := op_notIn_sign
theorem r_inS {c : Nat} {z : Str} : gInS (.str ⟨#[c]⟩) (.str z) H Q = Q (.bl (decide (c ∈ TL.tl z))) H := propext ⟨fun ⟨_, _, e, e', q⟩ => by cases e; cases e'; exact q, fun q => ⟨c, z, rfl, rfl, q⟩⟩
theorem r_ninS {c : Nat} {z : Str} : gNinS (.str ⟨#[c]⟩) (.str z) H Q = Q (.bl (!decide (c ∈ TL.tl z))) H := propext ⟨fun ⟨_, _, e, e', q⟩ => by cases e; cases e'; exact q, fun q => ⟨c, z, rfl, rfl, q⟩⟩
/-- x in a written tuple of flat things -/
theorem r_inT {a : Addr} {xs : List V} {x : V} (h : H a = some (.tup xs)) (fx : flatV x = true) (fs : xs.all flatV = true) (q : Q (.bl (inV x xs)) H) : rInG K false x (.ref a) H Q := .inl ⟨a, xs, rfl, .inr (.inl (.inl h)), fx, fs, by rw [if_neg Bool.false_ne_true]; exact q⟩
theorem r_ninT {a : Addr} {xs : List V} {x : V} (h : H a = some (.tup xs)) (fx : flatV x = true) (fs : xs.all flatV = true) (q : Q (.bl (!inV x xs)) H) : rInG K true x (.ref a) H Q := .inl ⟨a, xs, rfl, .inr (.inl (.inl h)), fx, fs, by rw [if_pos (rfl : true = true)]; exact q⟩
theorem r_inL {a : Addr} {xs : List V} {x : V} (h : SqL K H a xs) (fx : flatV x = true) (fs : xs.all flatV = true) (q : Q (.bl (inV x xs)) H) : rIn K false x (.ref a) H Q := ⟨a, xs, rfl, .inl h, fx, fs, by rw [if_neg Bool.false_ne_true]; exact q⟩
theorem r_ninL {a : Addr} {xs : List V} {x : V} (h : SqL K H a xs) (fx : flatV x = true) (fs : xs.all flatV = true) (q : Q (.bl (!inV x xs)) H) : rIn K true x (.ref a) H Q := ⟨a, xs, rfl, .inl h, fx, fs, by rw [if_pos (rfl : true = true)]; exact q⟩
/-- for c in a text -/
theorem x_str {te : TE} {R : It → Hp → Prop} : iStr te σ H R = te σ H fun v H1 => ∃ x, v = .str x ∧ R (Its x) H1 := rfl
theorem x_strE {z : Str} {P : Str → Prop} : (∃ x, V.str z = V.str x ∧ P x) = P z := propext ⟨fun ⟨_, e, q⟩ => by cases e; exact q, fun q => ⟨z, rfl, q⟩⟩
theorem forW_str {l : List Nat} (Pv : Nat → L2.St → Hp → Prop) (h0 : Pv 0 σ H) (hs : ∀ (i c : Nat) σ H, l[i]? = some c → Pv i σ H → g (.str (Sg [c])) σ H fun σ2 H2 => tb { D with nx := Pv (i + 1), ct := Pv (i + 1), bk := D.nx } σ2 H2)
    (hd : ∀ σ H, Pv l.length σ H → D.nx σ H) : ForW (Its (Sg l)) g tb D σ H :=
  for_it (walk_str (z := Sg l)) Pv h0 (fun _ _ _ _ _ => trivial) (fun i x σ H H' hi p y => by
    obtain ⟨rfl, c, e, rfl⟩ := y
    exact hs i c σ _ (by simpa using e) p) (by simpa using hd)
/-! ### calls -/
def gIntS : List V → Hp → VK → Prop := fun xs H Q => ∃ a n, xs = [.str a] ∧ PySem.intText? a = some n ∧ a.length ≤ 640 ∧ Q (.int n) H
theorem call_gIntS : CallR X (.type "int") gIntS := call_int_str
def gStrI : List V → Hp → VK → Prop
  | [.int i], H, Q => i.natAbs.log2 < 1920 ∧ Q (.str (toString i)) H
  | _, _, _ => False
theorem call_gStrI : CallR X (.type "str") gStrI := by
  intro pins s σ H xs us Q I r h
  unfold gStrI at h
  split at h
  · exact call_str_int pins s σ _ _ us Q I r ⟨_, rfl, h.1, h.2⟩
  · exact h.elim
theorem r_strI {i : Int} (h : i.natAbs.log2 < 1920) (q : Q (.str (Str.ofString (toString i))) H) : gStrI [.int i] H Q := ⟨h, q⟩
def rTupG (K : PySem.W.Frag) : List V → Hp → VK → Prop := fun xs H Q => ∃ p ys, xs = [.ref p] ∧ ((SqL K H p ys ∧ ∀ l, H l = none → Q (.ref l) (upd H l (.tup ys))) ∨ (SqT K H p ys ∧ Q (.ref p) H))
theorem call_tupK (hK : X.K = K) : CallR X (.type "tuple") (rTupG K) := hK ▸ call_tuple_of
def rJoin (K : PySem.W.Frag) : V → List V → Hp → VK → Prop := fun x xs H Q => ∃ a p, ∃ ys : List Str, x = .str a ∧ xs = [.ref p] ∧ (SqL K H p (ys.map V.str) ∨ SqT K H p (ys.map V.str)) ∧ (ys.map (·.length)).sum + ys.length * a.length ≤ 16777216 ∧ Q (.str (Txt.join a ys)) H
theorem mt_joinK (hK : X.K = K) : MtR X "str.join" (rJoin K) := hK ▸ mt_join
def rSplit : V → List V → Hp → VK → Prop := fun x xs H Q => ∃ a b, x = .str a ∧ xs = [.str b] ∧ (b.length == 0) = false ∧ a.length + 2 ≤ sizeLine ∧ rNewStrs (Txt.split a b) H Q
theorem mt_splitG : MtR X "str.split" rSplit := mt_split
def rFindS : V → List V → Hp → VK → Prop := fun x xs H Q => ∃ a b, x = .str a ∧ xs = [.str b] ∧ Q (.int (Txt.find a b)) H
theorem mt_findG : MtR X "str.find" rFindS := mt_find
theorem mt_indexK (hK : X.K = K) : MtR X "list.index" (rIndex K) := hK ▸ mt_index
/-- texts by their signs -/
def SgL (ps : List (List Nat)) : List V := ps.map fun p => V.str (Sg p)
theorem r_split {l : List Nat} {c : Nat} (hc : c < 256) (hz : l.length + 2 ≤ sizeLine) (q : ∀ p, H p = none → Q (.ref p) (upd H p (.lst (SgL (TL.spl [c] 0 [] l))))) : rSplit (.str (Sg l)) [.str (Sg [c])] H Q := by
  refine ⟨_, _, rfl, rfl, rfl, by rw [Sg_len]; exact hz, fun p hp => ?_⟩
  have e := TL.split_spl (Sg l) (Sg [c]) (by simp) (TL.kind_ok (by simp [hc]))
  have e2 : (Txt.split (Sg l) (Sg [c])).map V.str = SgL (TL.spl [c] 0 [] l) := by
    have e : (Txt.split (Sg l) (Sg [c])).map TL.tl = TL.spl [c] 0 [] l := e
    rw [← e]
    unfold SgL
    rw [List.map_map]
    refine List.map_congr_left fun z _ => ?_
    show V.str z = V.str (Sg (TL.tl z))
    rw [← Sg_of]
  rw [e2]
  exact q p hp
theorem r_join {sep : List Nat} {ps : List (List Nat)} {p : Addr} (h : SqL K H p (SgL ps)) (hz : (ps.map List.length).sum + ps.length * sep.length ≤ 16777216) (q : Q (.str (Sg (TL.joinL sep ps))) H) : rJoin K (.str (Sg sep)) [.ref p] H Q := by
  refine ⟨_, p, ps.map Sg, rfl, rfl, .inl (by rw [List.map_map]; exact h), ?_, ?_⟩
  · rw [List.map_map, List.length_map, Sg_len, show ((·.length) ∘ Sg : List Nat → Nat) = List.length from funext fun l => Sg_len l]
    exact hz
  · have e : Txt.join (Sg sep) (ps.map Sg) = Sg (TL.joinL sep ps) := TL.ext_tl (by
      rw [TL.join_eq, TL.tl_join, List.map_map, show (TL.tl ∘ Sg) = (id : List Nat → List Nat) from rfl, List.map_id])
    rw [e]
    exact q
theorem r_ixStr {l : List Nat} {i c : Nat} (hz : l.length ≤ sizeLine) (e : l[i]? = some c) (q : Q (.str (Sg [c])) H) : rIx K (.str (Sg l)) (.int (i : Int)) H Q :=
  .inr (.inr ⟨_, _, c, rfl, rfl, by rw [Sg_len]; exact hz, atI_nat e, q⟩)
theorem r_lenStr {l : List Nat} : (q : l.length ≤ sizeLine ∧ Q (.int (l.length : Int)) H) → L2.rLen K [.str (Sg l)] H Q := fun q => ⟨_, _, rfl, by show (Sg l).length ≤ sizeLine ∧ _ = (Sg l).length; rw [Sg_len]; exact ⟨q.1, rfl⟩, q.2⟩
theorem r_slStr {l : List Nat} {lo hi : Option Int} (hz : l.length ≤ sizeLine) (q : Q (.str (Sg (cutL l lo hi))) H) : rSlS (.str (Sg l)) lo hi H Q := ⟨_, rfl, by rw [Sg_len]; exact hz, by rw [cutS_S]; exact q⟩
theorem r_tupL {a : Addr} {xs : List V} (h : SqL K H a xs) (q : ∀ l, H l = none → Q (.ref l) (upd H l (.tup xs))) : rTupG K [.ref a] H Q := ⟨a, xs, rfl, .inl ⟨h, q⟩⟩
end
end G
namespace G
open PySem PySem.Spec PySem.Calls PyProof.Rows L2 He
/-! ### suites of some statements -/
section
variable {X : Addr → List (Addr × Obj) → Cx} {st : Stmt} {rest a b : List Stmt} {t u : TS} {tc : TT} {c : Expr} {pos : Pos}
theorem su_nil : ∀ x y, PSs (X x y) [] tNext := fun _ _ => pss_nil
theorem su_one (h : ∀ x y, PS (X x y) st t) : ∀ x y, PSs (X x y) [st] t := fun x y => pss_one (h x y)
theorem su_cons (h1 : ∀ x y, PS (X x y) st t) (h2 : ∀ x y, PSs (X x y) rest u) : ∀ x y, PSs (X x y) (st :: rest) (tSeq t u) := fun x y => pss_cons (h1 x y) (h2 x y)
theorem su_if (h : ∀ x y, PT (X x y) c tc) (h1 : ∀ x y, PSs (X x y) a t) (h2 : ∀ x y, PSs (X x y) b u) : ∀ x y, PS (X x y) (.If c a b pos) (tIfS tc t u) := fun x y => ps_if (h x y) (h1 x y) (h2 x y)
end
theorem pe_isTK {X : Cx} {K : PySem.W.Frag} {a : Expr} {es : List Expr} {x1} {ta : TE} {tc : TA} {p tp pos : Pos} (hK : X.K = K) (hg : Gl X "isinstance") (hm : X.mg "isinstance" = none) (ha : PE X a ta) (hc : PA X es tc)
    (he : starEach [a, .Tuple es x1 tp] X.env = [(false, eval a X.env), (false, eval (.Tuple es x1 tp) X.env)] := by rfl) : PE X (.Call (.Name "isinstance" p) [a, .Tuple es x1 tp] [] pos) (tIsT K ta tc) := by
  subst hK
  exact pe_isT hg hm ha hc he
end G
namespace G
open PySem PySem.Spec PySem.Calls PyProof.Rows L2 He
/-! ### a written dict -/
section
variable {σ : L2.St} {H : Hp} {Q : VK} {K : PySem.W.Frag}
theorem x_disp {trs : List (TE × TE)} : tDisp trs σ H Q = ∀ p, H p = none → tPairs trs σ (upd H p (.dK [])) fun ps H2 => H2 p = some (.dK []) ∧ ∃ kvs : List (Key × V), ps = kvs.map (fun kv => (kV kv.1, kv.2)) ∧ kvs.length ≤ 15 ∧ Q (.ref p) (upd H2 p (.dK (mergeK [] kvs))) := rfl
theorem x_pnil {R : List (V × V) → Hp → Prop} : tPairs [] σ H R = R [] H := rfl
theorem x_pcons {tk tv : TE} {r : List (TE × TE)} {R : List (V × V) → Hp → Prop} : tPairs ((tk, tv) :: r) σ H R = tk σ H fun x H1 => tv σ H1 fun y H2 => tPairs r σ H2 fun ps H3 => R ((x, y) :: ps) H3 := rfl
theorem r_lenT {a : Addr} {xs : List V} (h : H a = some (.tup xs)) (q : Q (.int (xs.length : Int)) H) : L2.rLen K [.ref a] H Q := ⟨_, _, rfl, .inr ⟨_, .inl (.inl h), rfl⟩, q⟩
theorem call_maxK {X : Cx} {K : PySem.W.Frag} (hK : X.K = K) (hc : X.calm = true) : CallR X (.builtin "max") (rMax K) := hK ▸ cr_max hc
theorem call_minK {X : Cx} {K : PySem.W.Frag} (hK : X.K = K) (hc : X.calm = true) : CallR X (.builtin "min") (rMin K) := hK ▸ cr_min hc
end
end G
namespace Pr
open PySem PySem.Spec PyProof.Rows L2 G
local macro_rules | `(tactic| walk_at "x") => `(tactic| try simp only [↓x_var0, ↓x_varS, ↓x_c, ↓x_op, ↓x_un, ↓x_cb, ↓x_nil, ↓x_cons, ↓x_test, ↓x_b, ↓x_ex, ↓x_and, ↓x_or, ↓x_not, ↓x_andV, ↓x_orV, ↓x_notV, ↓x_tif, ↓x_chain, ↓x_menu, ↓x_menuI, ↓x_lst, ↓x_tup, ↓x_dnew, ↓x_callW, ↓x_callN, ↓x_seq, ↓x_next, ↓x_ret, ↓x_retN, ↓x_drop, ↓x_ifS, ↓x_asg, ↓x_name, ↓x_raise, ↓x_fld, ↓x_setF, ↓x_meth, ↓x_make, ↓x_sub, ↓r_min, ↓r_max, ↓x_yes, ↓x_for, ↓x_lock, ↓x_keys, ↓x_cut, ↓x_lc, ↓x_rng1, ↓x_rng2, ↓x_lst1, ↓x_itup, ↓x_rng3, ↓x_three, ↓x_lstg, ↓x_tupg, ↓x_adrS, ↓x_one, ↓x_two, ↓x_adr, ↓x_sl, ↓x_np, ↓x_pt, ↓x_int, ↓x_bm, ↓x_bm0, ↓x_consg, ↓x_nilg, ↓x_dget2, ↓x_dget1, ↓x_dget, ↓x_din, ↓x_dni, ↓x_dput, ↓x_dpop2, ↓r_isB, ↓r_notB, ↓x_enum, ↓x_zip, ↓x_str, ↓x_strE, ↓r_inS, ↓r_ninS, wipe, List.map_cons, List.map_nil, ↓x_isT, ↓r_isiII, ↓r_isiBB, ↓r_isiIB, ↓r_isiSS, ↓r_neNS, ↓r_neSN, ↓r_neNN, ↓r_eqNS, ↓r_eqSN, ↓r_eqNN, ↓r_eqIS, ↓r_neIS, ↓r_neSI, ↓r_neBS, ↓r_eqBB, ↓r_neBB, ↓x_start, ↓x_K, ↓x_start0, ↓r_i0, ↓r_i, ↓r_u, ↓r_addI, ↓r_addS, ↓r_mulI, ↓r_mulS, ↓r_eqI, ↓r_neI, ↓r_eqS, ↓r_neS, ↓r_absI, ↓r_intI, ↓r_intB, List.length_cons, List.length_nil, List.replicate, List.set_cons_zero, List.set_cons_succ, decide_eq_true_eq, Bool.not_eq_true', decide_eq_false_iff_not, if_true, if_false, Bool.false_eq_true, Bool.true_eq_false, ite_true, ite_false, Bool.not_true, Bool.not_false, c_div, n_ten, c_pow, not_true_eq_false, not_false_eq_true, decide_true, decide_false, true_and, and_true, and_self, true_or, or_true, Int.reduceLT, Int.reduceLE, Int.reduceMul, Int.reduceAdd, Int.reduceSub, Int.reducePow, Int.reduceNeg, Int.reduceDiv, Int.reduceMod, Nat.reducePow, Int.reduceToNat, Int.reduceEq, Int.reduceNe, Nat.reduceLT, Nat.reduceLeDiff, Nat.reduceAdd])

/-! ## the text by places -/
def top (i : Nat) : Stmt := PySem.Challenge.pw_cellkeep_k29_frames.main.body.getD i (.Pass ⟨0, 0, 0, 0⟩)
abbrev s_begun : Stmt := top 4
abbrev s_way_to : Stmt := top 5
abbrev s_loaded : Stmt := top 6
abbrev s_stored : Stmt := top 7
abbrev s_brought : Stmt := top 8
abbrev s_deeds_of : Stmt := top 9
abbrev s__law_cell_at : Stmt := top 11
abbrev s__law_next : Stmt := top 12
abbrev s__law_names : Stmt := top 13
abbrev s__law_is_hand : Stmt := top 14
abbrev s__law_slots : Stmt := top 15
abbrev s__law_deed : Stmt := top 16
abbrev s__law_all : Stmt := top 17
abbrev s__law_stands : Stmt := top 18
abbrev s__law_cells : Stmt := top 19
abbrev s__law_statement : Stmt := top 20
abbrev s__law_due : Stmt := top 21
abbrev s__law_stepped : Stmt := top 22
abbrev s_law : Stmt := top 23
/-! ## the facts -/
def fa : List He.Fa := [.glo "begun", .glo "way_to", .glo "loaded", .glo "stored", .glo "brought", .glo "deeds_of", .glo "_law_cell_at", .glo "_law_next", .glo "_law_names", .glo "_law_is_hand", .glo "_law_slots", .glo "_law_deed", .glo "_law_all", .glo "_law_stands", .glo "_law_cells", .glo "_law_statement", .glo "_law_due", .glo "_law_stepped", .glo "law", .int "NAMES" (7), .int "LAST" (7), .int "WIDE" (8), .free "isinstance", .free "len", .free "range", .free "min", .free "enumerate", .free "int", .free "bool", .free "list", .free "tuple"]
def d_begun : He.DefD := ⟨("begun", none), "begun", "begun", defArgs s_begun, defBody s_begun, defScope s_begun, [], []⟩
def d_way_to : He.DefD := ⟨("way_to", none), "way_to", "way_to", defArgs s_way_to, defBody s_way_to, defScope s_way_to, [], []⟩
def d_loaded : He.DefD := ⟨("loaded", none), "loaded", "loaded", defArgs s_loaded, defBody s_loaded, defScope s_loaded, [], []⟩
def d_stored : He.DefD := ⟨("stored", none), "stored", "stored", defArgs s_stored, defBody s_stored, defScope s_stored, [], []⟩
def d_brought : He.DefD := ⟨("brought", none), "brought", "brought", defArgs s_brought, defBody s_brought, defScope s_brought, [], []⟩
def d_deeds_of : He.DefD := ⟨("deeds_of", none), "deeds_of", "deeds_of", defArgs s_deeds_of, defBody s_deeds_of, defScope s_deeds_of, [], []⟩
def d__law_cell_at : He.DefD := ⟨("_law_cell_at", none), "_law_cell_at", "_law_cell_at", defArgs s__law_cell_at, defBody s__law_cell_at, defScope s__law_cell_at, [], []⟩
def d__law_next : He.DefD := ⟨("_law_next", none), "_law_next", "_law_next", defArgs s__law_next, defBody s__law_next, defScope s__law_next, [], []⟩
def d__law_names : He.DefD := ⟨("_law_names", none), "_law_names", "_law_names", defArgs s__law_names, defBody s__law_names, defScope s__law_names, [], []⟩
def d__law_is_hand : He.DefD := ⟨("_law_is_hand", none), "_law_is_hand", "_law_is_hand", defArgs s__law_is_hand, defBody s__law_is_hand, defScope s__law_is_hand, [], []⟩
def d__law_slots : He.DefD := ⟨("_law_slots", none), "_law_slots", "_law_slots", defArgs s__law_slots, defBody s__law_slots, defScope s__law_slots, [], []⟩
def d__law_deed : He.DefD := ⟨("_law_deed", none), "_law_deed", "_law_deed", defArgs s__law_deed, defBody s__law_deed, defScope s__law_deed, [], []⟩
def d__law_all : He.DefD := ⟨("_law_all", none), "_law_all", "_law_all", defArgs s__law_all, defBody s__law_all, defScope s__law_all, [], []⟩
def d__law_stands : He.DefD := ⟨("_law_stands", none), "_law_stands", "_law_stands", defArgs s__law_stands, defBody s__law_stands, defScope s__law_stands, [], []⟩
def d__law_cells : He.DefD := ⟨("_law_cells", none), "_law_cells", "_law_cells", defArgs s__law_cells, defBody s__law_cells, defScope s__law_cells, [], []⟩
def d__law_statement : He.DefD := ⟨("_law_statement", none), "_law_statement", "_law_statement", defArgs s__law_statement, defBody s__law_statement, defScope s__law_statement, [], []⟩
def d__law_due : He.DefD := ⟨("_law_due", none), "_law_due", "_law_due", defArgs s__law_due, defBody s__law_due, defScope s__law_due, [], []⟩
def d__law_stepped : He.DefD := ⟨("_law_stepped", none), "_law_stepped", "_law_stepped", defArgs s__law_stepped, defBody s__law_stepped, defScope s__law_stepped, [], []⟩
def d_law : He.DefD := ⟨("law", none), "law", "law", defArgs s_law, defBody s_law, defScope s_law, [], []⟩
def fn : List He.DefD := [d_begun, d_way_to, d_loaded, d_stored, d_brought, d_deeds_of, d__law_cell_at, d__law_next, d__law_names, d__law_is_hand, d__law_slots, d__law_deed, d__law_all, d__law_stands, d__law_cells, d__law_statement, d__law_due, d__law_stepped, d_law]
def exL : XL := ⟨[], []⟩
abbrev Tx (K : PySem.W.Frag) (mg : Str → Option Value) : Prop := Told fa fn exL K mg
theorem sc_begun : FnScope ["names", "deeds", "number"] ["names"] (defScope s_begun) := ⟨rfl, rfl, rfl, by decide +kernel, rfl, by decide +kernel, by decide +kernel⟩
theorem sc_way_to : FnScope ["number", "hand", "deeds", "turn"] ["number", "hand"] (defScope s_way_to) := ⟨rfl, rfl, rfl, by decide +kernel, rfl, by decide +kernel, by decide +kernel⟩
theorem sc_loaded : FnScope ["names", "name", "hand", "place"] ["names", "name", "hand"] (defScope s_loaded) := ⟨rfl, rfl, rfl, by decide +kernel, rfl, by decide +kernel, by decide +kernel⟩
theorem sc_stored : FnScope ["names", "name", "place"] ["names", "name"] (defScope s_stored) := ⟨rfl, rfl, rfl, by decide +kernel, rfl, by decide +kernel, by decide +kernel⟩
theorem sc_brought : FnScope ["names", "statement", "word"] ["names", "statement"] (defScope s_brought) := ⟨rfl, rfl, rfl, by decide +kernel, rfl, by decide +kernel, by decide +kernel⟩
theorem sc_deeds_of : FnScope ["names", "statement", "deeds"] ["names", "statement"] (defScope s_deeds_of) := ⟨rfl, rfl, rfl, by decide +kernel, rfl, by decide +kernel, by decide +kernel⟩
theorem sc__law_cell_at : FnScope ["_law_script", "_law_k"] ["_law_script", "_law_k"] (defScope s__law_cell_at) := ⟨rfl, rfl, rfl, by decide +kernel, rfl, by decide +kernel, by decide +kernel⟩
theorem sc__law_next : FnScope ["_law_seed"] ["_law_seed"] (defScope s__law_next) := ⟨rfl, rfl, rfl, by decide +kernel, rfl, by decide +kernel, by decide +kernel⟩
theorem sc__law_names : FnScope ["_law_script", "_law_some", "_law_seed", "_law_base", "_law_k", "_law_at", "_law_names_here", "_law_letter", "_law_one"] ["_law_script"] (defScope s__law_names) := ⟨rfl, rfl, rfl, by decide +kernel, rfl, by decide +kernel, by decide +kernel⟩
theorem sc__law_is_hand : FnScope ["_law_thing"] ["_law_thing"] (defScope s__law_is_hand) := ⟨rfl, rfl, rfl, by decide +kernel, rfl, by decide +kernel, by decide +kernel⟩
theorem sc__law_slots : FnScope ["_law_s", "_law_hand", "_law_slot", "_law_row"] ["_law_s", "_law_hand", "_law_slot"] (defScope s__law_slots) := ⟨rfl, rfl, rfl, by decide +kernel, rfl, by decide +kernel, by decide +kernel⟩
theorem sc__law_deed : FnScope ["_law_s", "_law_deed_here", "_law_row"] ["_law_s", "_law_deed_here"] (defScope s__law_deed) := ⟨rfl, rfl, rfl, by decide +kernel, rfl, by decide +kernel, by decide +kernel⟩
theorem sc__law_all : FnScope ["_law_s", "_law_deeds", "_law_deed_here"] ["_law_s", "_law_deeds"] (defScope s__law_all) := ⟨rfl, rfl, rfl, by decide +kernel, rfl, by decide +kernel, by decide +kernel⟩
theorem sc__law_stands : FnScope ["_law_s", "_law_names_here", "_law_due_here", "_law_kept", "_law_cells_here", "_law_row", "_law_k", "_law_name", "_law_hand", "_law_other"] ["_law_s", "_law_names_here", "_law_due_here"] (defScope s__law_stands) := ⟨rfl, rfl, rfl, by decide +kernel, rfl, by decide +kernel, by decide +kernel⟩
theorem sc__law_cells : FnScope ["_law_s", "_law_due_here", "_law_k"] ["_law_s", "_law_due_here"] (defScope s__law_cells) := ⟨rfl, rfl, rfl, by decide +kernel, rfl, by decide +kernel, by decide +kernel⟩
theorem sc__law_statement : FnScope ["_law_s", "_law_names_here", "_law_due_here", "_law_seed", "_law_one", "_law_other", "_law_wide", "_law_pick", "_law_cell", "_law_slot"] ["_law_s", "_law_names_here", "_law_due_here", "_law_seed"] (defScope s__law_statement) := ⟨rfl, rfl, rfl, by decide +kernel, rfl, by decide +kernel, by decide +kernel⟩
theorem sc__law_due : FnScope ["_law_s", "_law_names_here", "_law_due_here", "_law_statement_here", "_law_word", "_law_place", "_law_fresh", "_law_held"] ["_law_s", "_law_names_here", "_law_due_here", "_law_statement_here"] (defScope s__law_due) := ⟨rfl, rfl, rfl, by decide +kernel, rfl, by decide +kernel, by decide +kernel⟩
theorem sc__law_stepped : FnScope ["_law_s", "_law_names_here", "_law_due_here", "_law_statement_here", "_law_fresh", "_law_row", "_law_cell", "_law_deeds", "_law_here", "_law_held", "_law_k"] ["_law_s", "_law_names_here", "_law_due_here", "_law_statement_here"] (defScope s__law_stepped) := ⟨rfl, rfl, rfl, by decide +kernel, rfl, by decide +kernel, by decide +kernel⟩
theorem sc_law : FnScope ["_law_script", "_law_names_here", "_law_handed", "_law_s", "_law_k", "_law_due_here", "_law_cell", "_law_seed", "_law_one", "_law_place", "_law_own"] ["_law_script"] (defScope s_law) := ⟨rfl, rfl, rfl, by decide +kernel, rfl, by decide +kernel, by decide +kernel⟩

/-! ## the head and the end -/
abbrev RR : PySem.W.OpenRow := PySem.W.OpenLaw.row PySem.Challenge.rw_cellkeep_k29_frames
abbrev hk : PySem.W.Hook := hookG 6 fa fn exL
def ob (s : PySem.W.SharedT) : He.AlD × Bool := lookG 6 fa fn exL (HandSHeadRun.getT s)
theorem ob_eq (s : PySem.W.SharedT) : ob s = hk.obs s.abs := lookG_eq (HandSHeadRun.getT_eq s)
def loose : List Str := (["NAMES", "LAST", "WIDE", "begun", "way_to", "loaded", "stored", "brought", "deeds_of", "_law_cell_at", "_law_next", "_law_names", "_law_is_hand", "_law_slots", "_law_deed", "_law_all", "_law_stands", "_law_cells", "_law_statement", "_law_due", "_law_stepped"] : List Str)
theorem run (w : World) : HandSHeadRun.RunEq RR (PySem.W.view RR.prog [23]) hk ob 16000 loose w := by
  intro os
  kernel_rfl

/-! ## whole numbers, and what is none -/
/-- a plain thing that is no whole number -/
def Odd (H : Hp) (v : V) : Prop := ∃ t, tyOf v H = some t ∧ t ≠ "int"
theorem odd_not {H : Hp} {n : Int} : ¬ Odd H (.int n) := fun ⟨t, e, h⟩ => h (Option.some.inj e).symm
theorem odd_bl {H : Hp} {b : Bool} : Odd H (.bl b) := ⟨"bool", rfl, by decide⟩
theorem odd_non {H : Hp} : Odd H .non := ⟨"NoneType", rfl, by decide⟩
theorem odd_str {H : Hp} {z : Str} : Odd H (.str z) := ⟨"str", rfl, by decide⟩
theorem odd_lst {H : Hp} {a : Addr} {xs : List V} (h : H a = some (.lst xs)) : Odd H (.ref a) := ⟨"list", by show tyO (H a) = _; rw [h]; rfl, by decide⟩
theorem odd_tup {H : Hp} {a : Addr} {xs : List V} (h : H a = some (.tup xs)) : Odd H (.ref a) := ⟨"tuple", by show tyO (H a) = _; rw [h]; rfl, by decide⟩
theorem odd_dK {H : Hp} {a : Addr} {kvs : List (Key × V)} (h : H a = some (.dK kvs)) : Odd H (.ref a) := ⟨"dict", by show tyO (H a) = _; rw [h]; rfl, by decide⟩
abbrev Ex (K : PySem.W.Frag) (x : Str) : Value := .ref (He.ga K x)
def sp_is_whole : Sp
  | [.int _], H, Q, _ => Q (.bl true) H
  | [v], H, Q, _ => Odd H v ∧ Q (.bl false) H
  | _, _, _, _ => False
theorem len_is_whole {vs H Q E} (h : sp_is_whole vs H Q E) : vs.length = 1 := by unfold sp_is_whole at h; split at h <;> first | rfl | exact h.elim
theorem odd_whole {H : Hp} {v : V} {Q : VK} {E : XK} (h : Odd H v) : sp_is_whole [v] H Q E = Q (.bl false) H := by
  cases v with
  | int n => exact (odd_not h).elim
  | _ => exact propext ⟨fun z => z.2, fun z => ⟨h, z⟩⟩
theorem x_whole {H : Hp} {n : Int} {Q : VK} {E : XK} : sp_is_whole [.int n] H Q E = Q (.bl true) H := rfl
/-- the two questions of is_whole -/
theorem whole_odd {H : Hp} {v : V} {Q : VK} (h : Odd H v) (q : Q (.bl false) H) : gIsi [v, .ty "int"] H fun x H1 => ∃ c, x = .bl c ∧ if c = true then gIsi [v, .ty "bool"] H1 (fun x H2 => ∃ c, x = .bl c ∧ Q (.bl (!c)) H2) else Q (.bl false) H1 := by
  obtain ⟨t, e, ne⟩ := h
  refine ⟨by decide, t, e, _, rfl, ?_⟩
  have m := tyOf_in e
  split
  · rename_i c
    have tb : t = "bool" := by
      simp only [tys, List.mem_cons, List.not_mem_nil, or_false] at m
      rcases m with rfl | rfl | rfl | rfl | rfl | rfl | rfl
      · exact absurd c (by decide)
      · rfl
      · exact absurd rfl ne
      · exact absurd c (by decide)
      · exact absurd c (by decide)
      · exact absurd c (by decide)
      · exact absurd c (by decide)
    subst tb
    exact ⟨by decide, _, e, _, rfl, q⟩
  · exact q
theorem whole_int {H : Hp} {n : Int} {Q : VK} (q : Q (.bl true) H) : gIsi [.int n, .ty "int"] H fun x H1 => ∃ c, x = .bl c ∧ if c = true then gIsi [.int n, .ty "bool"] H1 (fun x H2 => ∃ c, x = .bl c ∧ Q (.bl (!c)) H2) else Q (.bl false) H1 :=
  ⟨by decide, _, rfl, _, rfl, by rw [if_pos (by decide)]; exact ⟨by decide, _, rfl, _, rfl, q⟩⟩
local macro_rules | `(tactic| walk_at "w") => `(tactic| try simp only [↓x_var0, ↓x_varS, ↓x_c, ↓x_op, ↓x_un, ↓x_cb, ↓x_nil, ↓x_cons, ↓x_test, ↓x_b, ↓x_ex, ↓x_and, ↓x_or, ↓x_not, ↓x_andV, ↓x_orV, ↓x_notV, ↓x_tif, ↓x_chain, ↓x_menu, ↓x_menuI, ↓x_lst, ↓x_tup, ↓x_dnew, ↓x_callW, ↓x_callN, ↓x_seq, ↓x_next, ↓x_ret, ↓x_retN, ↓x_drop, ↓x_ifS, ↓x_asg, ↓x_name, ↓x_raise, ↓x_fld, ↓x_setF, ↓x_meth, ↓x_make, ↓x_sub, ↓r_min, ↓r_max, ↓x_yes, ↓x_for, ↓x_lock, ↓x_keys, ↓x_cut, ↓x_lc, ↓x_rng1, ↓x_rng2, ↓x_lst1, ↓x_itup, ↓x_rng3, ↓x_three, ↓x_lstg, ↓x_tupg, ↓x_adrS, ↓x_one, ↓x_two, ↓x_adr, ↓x_sl, ↓x_np, ↓x_pt, ↓x_int, ↓x_bm, ↓x_bm0, ↓x_consg, ↓x_nilg, ↓x_dget2, ↓x_dget1, ↓x_dget, ↓x_din, ↓x_dni, ↓x_dput, ↓x_dpop2, ↓r_isB, ↓r_notB, ↓x_enum, ↓x_zip, ↓x_str, ↓x_strE, ↓r_inS, ↓r_ninS, wipe, List.map_cons, List.map_nil, ↓x_isT, ↓r_isiII, ↓r_isiBB, ↓r_isiIB, ↓r_isiSS, ↓r_neNS, ↓r_neSN, ↓r_neNN, ↓r_eqNS, ↓r_eqSN, ↓r_eqNN, ↓r_eqIS, ↓r_neIS, ↓r_neSI, ↓r_neBS, ↓r_eqBB, ↓r_neBB, ↓x_start, ↓x_K, ↓x_start0, ↓r_i0, ↓r_i, ↓r_u, ↓r_addI, ↓r_addS, ↓r_mulI, ↓r_mulS, ↓r_eqI, ↓r_neI, ↓r_eqS, ↓r_neS, ↓r_absI, ↓r_intI, ↓r_intB, List.length_cons, List.length_nil, List.replicate, List.set_cons_zero, List.set_cons_succ, decide_eq_true_eq, Bool.not_eq_true', decide_eq_false_iff_not, if_true, if_false, Bool.false_eq_true, Bool.true_eq_false, ite_true, ite_false, Bool.not_true, Bool.not_false, c_div, n_ten, c_pow, not_true_eq_false, not_false_eq_true, decide_true, decide_false, true_and, and_true, and_self, true_or, or_true, Int.reduceLT, Int.reduceLE, Int.reduceMul, Int.reduceAdd, Int.reduceSub, Int.reducePow, Int.reduceNeg, Int.reduceDiv, Int.reduceMod, Nat.reducePow, Int.reduceToNat, Int.reduceEq, Int.reduceNe, Nat.reduceLT, Nat.reduceLeDiff, Nat.reduceAdd, ↓x_whole])
theorem SgL_at {ps : List (List Nat)} {i : Nat} {p : List Nat} (h : ps[i]? = some p) : (SgL ps)[i]? = some (V.str (Sg p)) := by
  unfold SgL
  rw [List.getElem?_map, h]
  rfl
theorem SgL_mem {ps : List (List Nat)} {i : Nat} {x : V} (h : (SgL ps)[i]? = some x) : ∃ p, ps[i]? = some p ∧ x = V.str (Sg p) := by
  unfold SgL at h
  rw [List.getElem?_map] at h
  cases e : ps[i]? with
  | none => rw [e] at h; cases h
  | some p => rw [e] at h; cases h; exact ⟨p, rfl, rfl⟩
theorem SgL_len {ps : List (List Nat)} : (SgL ps).length = ps.length := List.length_map ..
theorem SgL_flat {ps : List (List Nat)} : (SgL ps).all flatV = true := List.all_eq_true.mpr fun x m => by
  obtain ⟨p, -, rfl⟩ := List.mem_map.mp m
  rfl

/-! ## the script's cells, lists that are read -/
def cell (ns : List Int) (j : Int) : Int := ns.getD j.toNat 0
theorem same_new {H : Hp} {p : Addr} {o : HO} (h : H p = none) : Same H (upd H p o) := fun b u e => by
  rw [upd_ne (ne_of_none e h)]
  exact e
theorem ite_and {P Q A B : Prop} [Decidable P] [Decidable Q] (h1 : P → Q → A) (h2 : ¬ (P ∧ Q) → B) : if P then (if Q then A else B) else B := by
  split
  · split
    · exact h1 ‹_› ‹_›
    · exact h2 fun z => absurd z.2 ‹_›
  · exact h2 fun z => absurd z.1 ‹_›
theorem ite_or {P Q A B : Prop} [Decidable P] [Decidable Q] (h1 : P ∨ Q → A) (h2 : ¬ P → ¬ Q → B) : if P then A else if Q then A else B := by
  split
  · exact h1 (.inl ‹_›)
  · split
    · exact h1 (.inr ‹_›)
    · exact h2 ‹_› ‹_›
/-- a new instance; its first deed -/
theorem same_mk {H : Hp} {x dx C : Addr} (nx : H x = none) (ndx : H dx = none) (ne : dx ≠ x) : Same H (upd (upd H dx (.own x)) x (.ins C dx [])) := (same_new ndx).trans (same_new (by rw [upd_ne ne.symm]; exact nx))
theorem same_init {H H' : Hp} {x dx C : Addr} (nx : H x = none) (ndx : H dx = none) (ne : dx ≠ x) (k : ∀ c o, c ≠ x → upd (upd H dx (.own x)) x (.ins C dx []) c = some o → H' c = some o) : Same H H' := fun c o e => k c o (ne_of_none e nx) (same_mk nx ndx ne c o e)
theorem cut_ints (ns : List Int) (lo hi : Option Int) : ∃ cs : List Int, cutV (ns.map V.int) lo hi = cs.map V.int := ⟨(ns.drop (HT.sIx ns.length 0 lo)).take (HT.sIx ns.length ns.length hi - HT.sIx ns.length 0 lo), by unfold cutV; rw [List.length_map, List.map_take, List.map_drop]⟩
def placeOf (n : Nat) : V → Option Nat
  | .int i => if 0 ≤ i ∧ i < n then some i.toNat else none
  | _ => none
theorem placeOf_int {n : Nat} {i : Int} : placeOf n (.int i) = if 0 ≤ i ∧ i < n then some i.toNat else none := rfl
theorem placeOf_odd {H : Hp} {n : Nat} {v : V} (h : Odd H v) : placeOf n v = none := by
  cases v with
  | int i => exact (odd_not h).elim
  | _ => rfl
theorem placeOf_some {n : Nat} {v : V} {i : Nat} (h : placeOf n v = some i) : v = .int (i : Int) ∧ i < n := by
  cases v with
  | int j =>
    rw [placeOf_int] at h
    split at h
    · rename_i c
      have e := Option.some.inj h
      exact ⟨by rw [← e]; congr 1; omega, by omega⟩
    · cases h
  | _ => cases h
def placeW : V → Option Int
  | .int n => if 0 ≤ n ∧ n ≤ 9999 then some n else none
  | _ => none
theorem placeW_int {n : Int} : placeW (.int n) = if 0 ≤ n ∧ n ≤ 9999 then some n else none := rfl
theorem placeW_odd {H : Hp} {v : V} (h : Odd H v) : placeW v = none := by
  cases v with
  | int i => exact (odd_not h).elim
  | _ => rfl
theorem placeW_some {v : V} {n : Int} (h : placeW v = some n) : v = .int n ∧ 0 ≤ n ∧ n ≤ 9999 := by
  cases v with
  | int j =>
    rw [placeW_int] at h
    split at h
    · rename_i c
      cases h
      exact ⟨rfl, c⟩
    · cases h
  | _ => cases h
theorem all_flat {ws : List Int} : (ws.map V.int).all flatV = true := by
  rw [List.all_map]
  exact List.all_eq_true.mpr fun _ _ => rfl
theorem in_ints {n : Int} {ws : List Int} : inV (.int n) (ws.map V.int) = decide (n ∈ ws) := by
  unfold inV
  rw [List.any_map]
  by_cases c : n ∈ ws
  · rw [decide_eq_true c]
    exact List.any_eq_true.mpr ⟨n, c, beq_self_eq_true n⟩
  · rw [decide_eq_false c]
    refine List.any_eq_false.mpr fun x hx e => c ?_
    have e2 : x = n := eq_of_beq e
    exact e2 ▸ hx
theorem none_of {H H' : Hp} {a : Addr} (s : Same H H') (h : H' a = none) : H a = none := by
  cases e : H a with
  | none => rfl
  | some o =>
    rw [s a o e] at h
    cases h
/-- a list that grows -/
theorem r_app {K : PySem.W.Frag} {H : Hp} {l : Addr} {xs : List V} {y : V} {Q : VK} (h : H l = some (.lst xs)) (hn : xs.length < sizeLine) (q : Q .non (upd H l (.lst (xs ++ [y])))) : tyV K "list" (.ref l) H ∧ rAppend (.ref l) [y] H Q := ⟨.inl ⟨rfl, _, .of h⟩, l, xs, y, rfl, rfl, h, hn, q⟩
theorem ty_lst {K : PySem.W.Frag} {H : Hp} {l : Addr} {xs : List V} (h : H l = some (.lst xs)) : tyV K "list" (.ref l) H := .inl ⟨rfl, _, .of h⟩
theorem same_tyOf {H H' : Hp} {v : V} {t : String} (s : Same H H') (h : tyOf v H = some t) : tyOf v H' = some t := by
  cases v with
  | ref a =>
    have h1 : tyO (H a) = some t := h
    cases e : H a with
    | none =>
      rw [e] at h1
      cases h1
    | some o =>
      rw [e] at h1
      show tyO (H' a) = some t
      rw [s a o e]
      exact h1
  | _ => exact h
theorem odd_same {H H' : Hp} {v : V} (s : Same H H') (h : Odd H v) : Odd H' v := h.elim fun t q => ⟨t, same_tyOf s q.1, q.2⟩
def Thing (H : Hp) (v : V) : Prop := (∃ n, v = .int n) ∨ Odd H v
theorem thing_same {H H' : Hp} {v : V} (s : Same H H') (h : Thing H v) : Thing H' v := h.imp id (odd_same s)
theorem thing_upd {H : Hp} {a : Addr} {o o' : HO} {v : V} (e : H a = some o) (q : tyO (some o) = tyO (some o')) (h : Thing H v) : Thing (upd H a o') v := h.imp id fun ⟨t, g, ne⟩ => ⟨t, by
  cases v with
  | ref b =>
    have h1 : tyO (H b) = some t := g
    show tyO (upd H a o' b) = some t
    by_cases c : b = a
    · subst c
      rw [upd_same, ← q, ← e]
      exact h1
    · rw [upd_ne c]
      exact h1
  | _ => exact g, ne⟩
theorem r_lenS {K : PySem.W.Frag} {H : Hp} {a : Addr} {xs : List V} {Q : VK} (h : SqL K H a xs) (q : Q (.int (xs.length : Int)) H) : L2.rLen K [.ref a] H Q := ⟨_, _, rfl, .inl ⟨_, h, rfl⟩, q⟩
theorem r_ixS {K : PySem.W.Frag} {H : Hp} {a : Addr} {xs : List V} {i : Int} {v : V} {Q : VK} (h : SqL K H a xs) (e : atI xs i = some v) (q : Q v H) : rIx K (.ref a) (.int i) H Q := .inl ⟨_, _, _, _, rfl, rfl, h, e, q⟩
theorem at_pos {α : Type} {xs : List α} {i : Int} {v : α} (h : 0 ≤ i) (e : xs[i.toNat]? = some v) : atI xs i = some v := by
  have hl := (List.getElem?_eq_some_iff.mp e).1
  unfold atI ixN
  rw [if_pos h, if_pos (by omega)]
  exact e
theorem menu_pick {xs : List V} {i : Int} {P : V → Prop} (Good : V → Prop) (h : ∃ v, atI xs i = some v ∧ Good v) (k : ∀ v, Good v → P v) : ∃ v, atI xs i = some v ∧ P v := h.elim fun v q => ⟨v, q.1, k v q.2⟩
theorem cut_int {ns : List Int} {lo hi : Option Int} {i : Nat} {x : V} (h : (cutV (ns.map V.int) lo hi)[i]? = some x) : ∃ c, x = .int c := by
  have m := List.mem_of_getElem? h
  unfold cutV at m
  have m2 := List.mem_of_mem_drop (List.mem_of_mem_take m)
  obtain ⟨c, -, e⟩ := List.mem_map.mp m2
  exact ⟨c, e.symm⟩
theorem sIx_pos {n d : Nat} {v : Int} (h : 0 ≤ v) : HT.sIx n d (some v) = min v.toNat n := by
  show (if v < 0 then (v + (n : Int)).toNat else min v.toNat n) = _
  rw [if_neg (by omega)]
theorem cut_len {xs : List V} {a b : Int} (h0 : 0 ≤ a) (h1 : a ≤ b) : (cutV xs (some a) (some b)).length ≤ (b - a).toNat := by
  unfold cutV
  rw [List.length_take, List.length_drop]
  rw [sIx_pos h0, sIx_pos (by omega)]
  omega
def sp_cell (K : PySem.W.Frag) : Sp := fun vs H Q _ => ∃ a j ns, vs = [.ref a, .int j] ∧ SqL K H a (ns.map V.int) ∧ 0 ≤ j ∧ Q (.int (cell ns j)) H
section
variable {P : Program} {w : World} {K : PySem.W.Frag} {mg : Str → Option Value} {base : Heap}
theorem f__law_cell_at (T : Tx K mg) : Fn P w K mg base 1 "_law_cell_at" ["_law_script", "_law_k"] (sp_cell K) := by
  refine T.mkFn 6 6 (d := d__law_cell_at) (N := ["_law_script", "_law_k"]) (k := 0) rfl rfl rfl rfl rfl sc__law_cell_at (fun _ _ _ _ _ _ us hl => match us, hl with | [_, _], _ => rfl) (fun vs H Q E h => ?len) (fun cdv A outer s H vs Q E hr h => ⟨_,
      (pss_cons (ps_if (pt_cmpR op_lt (pv 1) (pe_callB (call_lenK (K := K) rfl) (by rfl) (T.free 23) PySem.boot_len (pa_cons (pv 0) pa_nil)) (nomark _)) (pss_one (ps_ret (pe_ix (ix_seqK (K := K) rfl) (pv 0) (pv 1) (fun _ _ => rfl)))) pss_nil)
        (pss_one (ps_ret pe_int))), ?rd⟩)
  case len => obtain ⟨a, j, ns, rfl, _⟩ := h; rfl
  case rd =>
    obtain ⟨a, j, ns, rfl, hS, h0, q⟩ := h
    walk_at "x"
    refine r_lenS hS ?_
    walk_at "x"
    rw [List.length_map]
    unfold cell at q
    split
    · rename_i c
      have e : ns[j.toNat]? = some ns[j.toNat] := List.getElem?_eq_getElem (by omega)
      rw [List.getD_eq_getElem?_getD, e] at q
      exact r_ixS hS (at_pos h0 (by rw [List.getElem?_map, e]; rfl)) q
    · rw [List.getD_eq_getElem?_getD, List.getElem?_eq_none (by omega)] at q
      exact q
end


/-! ## plain hands and cells -/
inductive Th
  | no
  | num (n : Int)
  | cell (k : Nat)
inductive De
  | make (h : Nat) (n : Nat)
  | keep (h : Nat) (n : Int)
  | share (h g : Nat)
  | drop (h : Nat)
  | take (h g s : Nat)
  | put (h s g : Nat)
  | read (h : Nat)
structure S29 where
  hs : List Th
  cs : List (List Th)
def step (d : De) (S : S29) : Option S29 := match d with
  | .make h n => if h < 3 ∧ n ≤ 8 then some ⟨S.hs.set h (.cell S.cs.length), S.cs ++ [List.replicate n .no]⟩ else none
  | .keep h n => if h < 3 then some ⟨S.hs.set h (.num n), S.cs⟩ else none
  | .share h g => if h < 3 then (S.hs[g]?).map fun t => ⟨S.hs.set h t, S.cs⟩ else none
  | .drop h => if h < 3 then some ⟨S.hs.set h .no, S.cs⟩ else none
  | .take h g s => if h < 3 then match S.hs[g]? with
    | some (.cell k) => (S.cs[k]?).bind fun row => (row[s]?).map fun t => ⟨S.hs.set h t, S.cs⟩
    | _ => none else none
  | .put h s g => match S.hs[h]?, S.hs[g]? with
    | some (.cell k), some t => (S.cs[k]?).bind fun row => if s < row.length then some ⟨S.hs, S.cs.set k (row.set s t)⟩ else none
    | _, _ => none
  | .read h => if h < 3 then some S else none
def runD : List De → S29 → Option S29
  | [], S => some S
  | d :: r, S => (step d S).bind (runD r)
theorem run_app {a b : List De} {S S1 : S29} (h : runD a S = some S1) : runD (a ++ b) S = runD b S1 := by
  induction a generalizing S with
  | nil => cases h; rfl
  | cons d r ih =>
    show (step d S).bind (runD (r ++ b)) = _
    have h : (step d S).bind (runD r) = some S1 := h
    cases e : step d S with
    | none => rw [e] at h; cases h
    | some S2 => rw [e] at h; exact ih h
/-! ## the frames' deeds -/
def frameD (i : Nat) : List De := (if 0 < i then [.share 1 0] else []) ++ ([.make 0 8] ++ if 0 < i then [.put 0 7 1] else [])
def begunD (n : Nat) : List De := ((List.range ((n + 6) / 7)).map frameD).flatten ++ (if 7 < n then [.drop 1] else [])
def wayD (q h : Nat) : List De := .take h 0 7 :: List.replicate (q - 1) (.take h h 7)
def loadedD (p h : Nat) : List De := if p < 7 then [.take h 0 p] else wayD (p / 7) h ++ [.take h h (p % 7)]
def storedD (p : Nat) : List De := if p < 7 then [.put 0 p 1] else wayD (p / 7) 2 ++ [.put 2 (p % 7) 1]
/-- a statement, names by their places -/
inductive Sm
  | make (i n : Nat)
  | keep (i : Nat) (n : Int)
  | copy (i j : Nat)
  | drop (i : Nat)
  | get (i c s : Nat)
  | set (c s j : Nat)
  | tell (i : Nat)
def Sm.at : Sm → Nat
  | .make i _ | .keep i _ | .copy i _ | .drop i | .get i _ _ | .set i _ _ | .tell i => i
def broughtD : Sm → List De
  | .make _ n => [.make 1 n]
  | .keep _ n => [.keep 1 n]
  | .copy _ j => loadedD j 1
  | .get _ c s => loadedD c 1 ++ [.take 1 1 s]
  | _ => []
def deedsD : Sm → List De
  | .tell i => [.drop 1, .drop 2] ++ loadedD i 1 ++ [.read 1]
  | .set c s j => [.drop 1, .drop 2] ++ loadedD j 1 ++ loadedD c 2 ++ [.put 2 s 1]
  | st => [.drop 1, .drop 2] ++ broughtD st ++ storedD st.at
/-! ## frames in a state -/
def OkT (nf m : Nat) : Th → Prop
  | .cell k => nf ≤ k ∧ k < m
  | _ => True
theorem OkT.mono {nf m m' : Nat} {t : Th} (h : OkT nf m t) (l : m ≤ m') : OkT nf m' t := by
  cases t with
  | cell k => exact ⟨h.1, Nat.lt_of_lt_of_le h.2 l⟩
  | _ => exact h
structure Fr (nf : Nat) (S : S29) (due : List Th) : Prop where
  pos : 0 < nf
  names : due.length ≤ 7 * nf
  h3 : S.hs.length = 3
  h0 : S.hs[0]? = some (.cell (nf - 1))
  many : nf ≤ S.cs.length
  frame : ∀ i, i < nf → ∃ row : List Th, S.cs[i]? = some row ∧ row.length = 8 ∧ row[7]? = some (if i = 0 then .no else .cell (i - 1))
  told : ∀ (p : Nat) (t : Th), due[p]? = some t → ∃ row : List Th, S.cs[nf - 1 - p / 7]? = some row ∧ row[p % 7]? = some t
  okd : ∀ (p : Nat) (t : Th), due[p]? = some t → OkT nf S.cs.length t
  okc : ∀ (i : Nat) (row : List Th) (s : Nat) (t : Th), nf ≤ i → S.cs[i]? = some row → row[s]? = some t → OkT nf S.cs.length t
theorem step_take {h g s k : Nat} {S : S29} {row : List Th} {t : Th} (hh : h < 3) (e1 : S.hs[g]? = some (.cell k)) (e2 : S.cs[k]? = some row) (e3 : row[s]? = some t) : step (.take h g s) S = some ⟨S.hs.set h t, S.cs⟩ := by
  dsimp only [step]
  rw [if_pos hh, e1]
  dsimp only
  rw [e2]
  dsimp only [Option.bind_some]
  rw [e3]
  rfl
theorem step_put {h g s k : Nat} {S : S29} {row : List Th} {t : Th} (e1 : S.hs[h]? = some (.cell k)) (e2 : S.cs[k]? = some row) (e3 : S.hs[g]? = some t) (l : s < row.length) : step (.put h s g) S = some ⟨S.hs, S.cs.set k (row.set s t)⟩ := by
  dsimp only [step]
  rw [e1, e3]
  dsimp only
  rw [e2]
  dsimp only [Option.bind_some]
  rw [if_pos l]
section
variable {nf : Nat} {S : S29} {due : List Th}
theorem Fr.hands {hs : List Th} (F : Fr nf S due) (h3 : hs.length = 3) (h0 : hs[0]? = S.hs[0]?) : Fr nf ⟨hs, S.cs⟩ due := ⟨F.pos, F.names, h3, h0.trans F.h0, F.many, F.frame, F.told, F.okd, F.okc⟩
theorem Fr.setH (F : Fr nf S due) {h : Nat} {t : Th} (hh : 0 < h) : Fr nf ⟨S.hs.set h t, S.cs⟩ due := F.hands (by rw [List.length_set]; exact F.h3) (by rw [List.getElem?_set_ne (by omega)])
theorem set_at {hs : List Th} {h : Nat} {t : Th} (l : hs.length = 3) (hh : h < 3) : (hs.set h t)[h]? = some t := by
  rw [List.getElem?_set_self (by omega)]
theorem Fr.way (F : Fr nf S due) {q h : Nat} (q1 : 1 ≤ q) (q2 : q < nf) (h1 : 0 < h) (h2 : h < 3) : runD (wayD q h) S = some ⟨S.hs.set h (.cell (nf - 1 - q)), S.cs⟩ := by
  obtain ⟨row, e1, e2, e3⟩ := F.frame (nf - 1) (by omega)
  rw [if_neg (by omega)] at e3
  show (step (.take h 0 7) S).bind _ = _
  rw [step_take h2 F.h0 e1 e3]
  show runD _ _ = _
  have : ∀ m j hs, hs.length = 3 → hs[h]? = some (.cell j) → j < nf → m ≤ j → runD (List.replicate m (.take h h 7)) ⟨hs, S.cs⟩ = some ⟨if m = 0 then hs else hs.set h (.cell (j - m)), S.cs⟩ := by
    intro m
    induction m with
    | zero => intro j hs _ _ _ _; rfl
    | succ m ih =>
      intro j hs l3 e jl ml
      obtain ⟨row, e1, e2, e3⟩ := F.frame j jl
      rw [if_neg (by omega)] at e3
      show (step (.take h h 7) ⟨hs, S.cs⟩).bind _ = _
      rw [step_take (S := ⟨hs, S.cs⟩) h2 e e1 e3]
      show runD _ _ = _
      rw [ih (j - 1) (hs.set h (.cell (j - 1))) (by rw [List.length_set]; exact l3) (set_at l3 h2) (by omega) (by omega)]
      rw [if_neg (show ¬ m + 1 = 0 by omega)]
      split
      · rename_i c
        subst c
        rfl
      · rw [List.set_set, show j - 1 - m = j - (m + 1) from by omega]
  rw [this (q - 1) (nf - 1 - 1) _ (by rw [List.length_set]; exact F.h3) (set_at F.h3 h2) (by omega) (by omega)]
  split
  · rw [show nf - 1 - q = nf - 1 - 1 from by omega]
  · rw [List.set_set, show nf - 1 - 1 - (q - 1) = nf - 1 - q from by omega]
theorem Fr.load (F : Fr nf S due) {p h : Nat} {t : Th} (e : due[p]? = some t) (h1 : 0 < h) (h2 : h < 3) : runD (loadedD p h) S = some ⟨S.hs.set h t, S.cs⟩ := by
  obtain ⟨row, e1, e2⟩ := F.told p t e
  have pl := (List.getElem?_eq_some_iff.mp e).1
  have nm := F.names
  unfold loadedD
  split
  · rename_i c
    rw [Nat.div_eq_of_lt c, Nat.sub_zero] at e1
    rw [Nat.mod_eq_of_lt c] at e2
    show (step _ S).bind _ = _
    rw [step_take h2 F.h0 e1 e2]
    rfl
  · rw [run_app (F.way (by omega) (by omega) h1 h2)]
    show (step _ _).bind _ = _
    rw [step_take (S := ⟨S.hs.set h _, S.cs⟩) h2 (set_at F.h3 h2) e1 e2]
    show some _ = _
    rw [List.set_set]
theorem at_set {α : Type} {l : List α} {i j : Nat} {a b : α} (h : (l.set i a)[j]? = some b) : (j = i ∧ b = a) ∨ (j ≠ i ∧ l[j]? = some b) := by
  by_cases c : j = i
  · subst c
    have hl := (List.getElem?_eq_some_iff.mp h).1
    rw [List.length_set] at hl
    rw [List.getElem?_set_self hl] at h
    exact .inl ⟨rfl, (Option.some.inj h).symm⟩
  · rw [List.getElem?_set_ne (Ne.symm c)] at h
    exact .inr ⟨c, h⟩
/-- what hand 1 holds, stored -/
theorem Fr.store (F : Fr nf S due) {p : Nat} {t : Th} (pl : p < due.length) (e1 : S.hs[1]? = some t) (ok : OkT nf S.cs.length t) :
    ∃ hs cs, runD (storedD p) S = some ⟨hs, cs⟩ ∧ hs[1]? = some t ∧ Fr nf ⟨hs, cs⟩ (due.set p t) ∧ cs.length = S.cs.length ∧ ∀ i, nf ≤ i → cs[i]? = S.cs[i]? := by
  have nm := F.names
  obtain ⟨row, r1, r2, r3⟩ := F.frame (nf - 1 - p / 7) (by omega)
  have go : ∀ hs, hs.length = 3 → hs[0]? = S.hs[0]? → hs[1]? = some t → Fr nf ⟨hs, S.cs.set (nf - 1 - p / 7) (row.set (p % 7) t)⟩ (due.set p t) := by
    intro hs l3 l0 l1
    refine ⟨F.pos, by rw [List.length_set]; exact nm, l3, l0.trans F.h0, by rw [List.length_set]; exact F.many, fun i hi => ?_, fun p2 t2 e => ?_, fun p2 t2 e => ?_, fun i row2 s t2 hi e e2 => ?_⟩
    · by_cases c : i = nf - 1 - p / 7
      · subst c
        refine ⟨_, List.getElem?_set_self (by have := F.many; omega), by rw [List.length_set]; exact r2, ?_⟩
        rw [List.getElem?_set_ne (by omega)]
        exact r3
      · rw [List.getElem?_set_ne (Ne.symm c)]
        exact F.frame i hi
    · rcases at_set e with ⟨rfl, rfl⟩ | ⟨ne, e⟩
      · exact ⟨_, List.getElem?_set_self (by have := F.many; omega), List.getElem?_set_self (by omega)⟩
      · obtain ⟨row2, a1, a2⟩ := F.told p2 t2 e
        have pl2 := (List.getElem?_eq_some_iff.mp e).1
        by_cases c : p2 / 7 = p / 7
        · rw [c] at a1 ⊢
          rw [r1] at a1
          cases a1
          refine ⟨_, List.getElem?_set_self (by have := F.many; omega), ?_⟩
          rw [List.getElem?_set_ne (by omega)]
          exact a2
        · exact ⟨row2, by rw [List.getElem?_set_ne (by omega)]; exact a1, a2⟩
    · rw [List.length_set]
      rcases at_set e with ⟨rfl, rfl⟩ | ⟨ne, e⟩
      · exact ok
      · exact F.okd p2 t2 e
    · rw [List.length_set]
      rw [List.getElem?_set_ne (by have := F.pos; omega)] at e
      exact F.okc i row2 s t2 hi e e2
  unfold storedD
  split
  · rename_i c
    have z := go S.hs F.h3 rfl e1
    rw [Nat.div_eq_of_lt c, Nat.sub_zero] at r1 z
    rw [Nat.mod_eq_of_lt c] at z
    refine ⟨S.hs, _, ?_, e1, z, by rw [List.length_set], fun i hi => List.getElem?_set_ne (by have := F.pos; omega)⟩
    show (step _ S).bind _ = _
    rw [step_put F.h0 r1 e1 (by omega)]
    rfl
  · have z := go (S.hs.set 2 (.cell (nf - 1 - p / 7))) (by rw [List.length_set]; exact F.h3) (by rw [List.getElem?_set_ne (by omega)]) (by rw [List.getElem?_set_ne (by omega)]; exact e1)
    refine ⟨_, _, ?_, (by rw [List.getElem?_set_ne (by omega)]; exact e1), z, by rw [List.length_set], fun i hi => List.getElem?_set_ne (by have := F.pos; omega)⟩
    rw [run_app (F.way (by omega) (by omega) (by decide) (by decide))]
    show (step _ _).bind _ = _
    rw [step_put (S := ⟨S.hs.set 2 _, S.cs⟩) (set_at F.h3 (by decide)) r1 (by rw [List.getElem?_set_ne (by omega)]; exact e1) (by omega)]
    rfl
end

/-- what the names stand for behind a statement -/
def dueS (S : S29) (due : List Th) : Sm → List Th
  | .make i _ => due.set i (.cell S.cs.length)
  | .keep i n => due.set i (.num n)
  | .copy i j => due.set i (due.getD j .no)
  | .drop i => due.set i .no
  | .get i c s => due.set i (match due.getD c .no with | .cell k => (S.cs.getD k []).getD s .no | _ => .no)
  | _ => due
/-- the cells behind a statement -/
def rowsS (S : S29) (due : List Th) : Sm → List (List Th)
  | .make _ n => S.cs ++ [List.replicate n .no]
  | .set c s j => match due.getD c .no with
    | .cell k => S.cs.set k ((S.cs.getD k []).set s (due.getD j .no))
    | _ => S.cs
  | _ => S.cs
/-- a statement that can be done -/
def OkS (S : S29) (due : List Th) : Sm → Prop
  | .make i n => i < due.length ∧ n ≤ 8
  | .keep i _ | .drop i | .tell i => i < due.length
  | .copy i j => i < due.length ∧ j < due.length
  | .get i c s => i < due.length ∧ ∃ k row, due[c]? = some (.cell k) ∧ S.cs[k]? = some row ∧ s < row.length
  | .set c s j => j < due.length ∧ ∃ k row, due[c]? = some (.cell k) ∧ S.cs[k]? = some row ∧ s < row.length
theorem getD_of {α : Type} {l : List α} {i : Nat} {a d : α} (h : l[i]? = some a) : l.getD i d = a := by
  rw [List.getD_eq_getElem?_getD, h]
  rfl
theorem at_lt {α : Type} {l : List α} {i : Nat} (h : i < l.length) : ∃ a, l[i]? = some a := ⟨_, List.getElem?_eq_getElem h⟩
section
variable {nf : Nat} {S : S29} {due : List Th}
theorem Fr.grow (F : Fr nf S due) {hs : List Th} {n : Nat} (l3 : hs.length = 3) (l0 : hs[0]? = S.hs[0]?) : Fr nf ⟨hs, S.cs ++ [List.replicate n .no]⟩ due := by
  have l1 : (S.cs ++ [List.replicate n Th.no]).length = S.cs.length + 1 := List.length_append ..
  have low : ∀ (i : Nat) (row : List Th), S.cs[i]? = some row → (S.cs ++ [List.replicate n Th.no])[i]? = some row := fun i row e => by
    rw [List.getElem?_append_left (List.getElem?_eq_some_iff.mp e).1]
    exact e
  refine ⟨F.pos, F.names, l3, l0.trans F.h0, by rw [l1]; exact Nat.le_succ_of_le F.many, fun i hi => ?_, fun p t e => ?_, fun p t e => ?_, fun i row s t hi e e2 => ?_⟩
  · obtain ⟨row, a, b⟩ := F.frame i hi
    exact ⟨row, low _ _ a, b⟩
  · obtain ⟨row, a, b⟩ := F.told p t e
    exact ⟨row, low _ _ a, b⟩
  · exact (F.okd p t e).mono (by rw [l1]; exact Nat.le_succ _)
  · rw [l1]
    by_cases c : i < S.cs.length
    · rw [List.getElem?_append_left c] at e
      exact (F.okc i row s t hi e e2).mono (Nat.le_succ _)
    · have : i = S.cs.length := by
        have := (List.getElem?_eq_some_iff.mp e).1
        rw [l1] at this
        omega
      subst this
      rw [List.getElem?_concat_length] at e
      cases e
      rw [List.getElem?_replicate] at e2
      split at e2
      · cases e2
        exact trivial
      · cases e2
theorem Fr.setC (F : Fr nf S due) {k s : Nat} {row : List Th} {t : Th} (hk : nf ≤ k) (e : S.cs[k]? = some row) (ok : OkT nf S.cs.length t) : Fr nf ⟨S.hs, S.cs.set k (row.set s t)⟩ due := by
  have l1 : (S.cs.set k (row.set s t)).length = S.cs.length := List.length_set ..
  refine ⟨F.pos, F.names, F.h3, F.h0, by rw [l1]; exact F.many, fun i hi => ?_, fun p t2 e => ?_, fun p t2 e => ?_, fun i row2 s2 t2 hi e1 e2 => ?_⟩
  · rw [List.getElem?_set_ne (by omega)]
    exact F.frame i hi
  · obtain ⟨row2, a, b⟩ := F.told p t2 e
    have := F.pos
    exact ⟨row2, by rw [List.getElem?_set_ne (by omega)]; exact a, b⟩
  · rw [l1]
    exact F.okd p t2 e
  · rw [l1]
    rcases at_set e1 with ⟨rfl, rfl⟩ | ⟨ne, e1⟩
    · rcases at_set e2 with ⟨rfl, rfl⟩ | ⟨ne, e2⟩
      · exact ok
      · exact F.okc _ row s2 t2 hi e e2
    · exact F.okc i row2 s2 t2 hi e1 e2
theorem Fr.drop (F : Fr nf S due) {r : List De} : runD ([.drop 1, .drop 2] ++ r) S = runD r ⟨(S.hs.set 1 .no).set 2 .no, S.cs⟩ := rfl
theorem Fr.drops (F : Fr nf S due) : Fr nf ⟨(S.hs.set 1 .no).set 2 .no, S.cs⟩ due := (F.setH (h := 1) (by decide)).setH (h := 2) (by decide)
/-- the hand that a statement has hold what is stored -/
theorem Fr.brought (F : Fr nf S due) {st : Sm} {t : Th} (ok : OkS S due st) (ex : ∀ c s j, st ≠ .set c s j) (ex2 : ∀ i, st ≠ .tell i) (e1 : S.hs[1]? = some .no) (ed : dueS S due st = due.set st.at t) :
    ∃ hs, runD (broughtD st) S = some ⟨hs, rowsS S due st⟩ ∧ hs[1]? = some ((dueS S due st).getD st.at .no) ∧ Fr nf ⟨hs, rowsS S due st⟩ due ∧ OkT nf (rowsS S due st).length ((dueS S due st).getD st.at .no) := by
  have gd : ∀ {i : Nat} {t : Th}, i < due.length → (due.set i t).getD i .no = t := fun l => getD_of (List.getElem?_set_self l)
  cases st with
  | make i n =>
    have h := ok
    refine ⟨S.hs.set 1 (.cell S.cs.length), ?_, ?_, ?_, ?_⟩
    · show (step (.make 1 n) S).bind _ = _
      dsimp only [step]
      rw [if_pos ⟨by decide, h.2⟩]
      rfl
    · rw [set_at F.h3 (by decide)]
      exact congrArg some (gd h.1).symm
    · exact F.grow (by rw [List.length_set]; exact F.h3) (by rw [List.getElem?_set_ne (by decide)])
    · show OkT nf _ ((due.set i (.cell S.cs.length)).getD i .no)
      rw [gd h.1]
      exact ⟨F.many, by show _ < (S.cs ++ [_]).length; rw [List.length_append]; exact Nat.lt_succ_self _⟩
  | keep i n =>
    refine ⟨S.hs.set 1 (.num n), rfl, ?_, F.setH (by decide), ?_⟩
    · rw [set_at F.h3 (by decide)]
      exact congrArg some (gd ok).symm
    · show OkT nf _ ((due.set i (.num n)).getD i .no)
      rw [gd ok]
      exact trivial
  | copy i j =>
    have h := ok
    obtain ⟨t, et⟩ := at_lt h.2
    refine ⟨S.hs.set 1 t, F.load et (by decide) (by decide), ?_, F.setH (by decide), ?_⟩
    · rw [set_at F.h3 (by decide)]
      refine congrArg some (Eq.symm ((gd h.1).trans (getD_of et)))
    · show OkT nf _ ((due.set i (due.getD j .no)).getD i .no)
      rw [gd h.1, getD_of et]
      exact F.okd _ _ et
  | drop i =>
    refine ⟨S.hs, rfl, ?_, F, ?_⟩
    · rw [e1]
      exact congrArg some (gd ok).symm
    · show OkT nf _ ((due.set i .no).getD i .no)
      rw [gd ok]
      exact trivial
  | get i c s =>
    obtain ⟨h1, k, row, h2, h3, h4⟩ := ok
    obtain ⟨t, et⟩ := at_lt h4
    have ev : (match due.getD c .no with | .cell k => (S.cs.getD k []).getD s .no | _ => .no) = t := by
      rw [getD_of h2]
      dsimp only
      rw [getD_of h3, getD_of et]
    refine ⟨S.hs.set 1 t, ?_, ?_, F.setH (by decide), ?_⟩
    · show runD (loadedD c 1 ++ [.take 1 1 s]) S = _
      rw [run_app (F.load h2 (by decide) (by decide))]
      show (step _ _).bind _ = _
      rw [step_take (S := ⟨S.hs.set 1 _, S.cs⟩) (by decide) (set_at F.h3 (by decide)) h3 et]
      show some _ = _
      rw [List.set_set]
      rfl
    · rw [set_at F.h3 (by decide)]
      exact congrArg some (Eq.symm ((gd h1).trans ev))
    · show OkT nf _ ((due.set i _).getD i .no)
      rw [gd h1, ev]
      exact F.okc k row s t (F.okd _ _ h2).1 h3 et
  | set c s j => exact absurd rfl (ex c s j)
  | tell i => exact absurd rfl (ex2 i)
end
section
variable {nf : Nat} {S : S29} {due : List Th}
theorem Fr.finish (F : Fr nf S due) {st : Sm} {t : Th} (ok : OkS S due st) (ex : ∀ c s j, st ≠ .set c s j) (ex2 : ∀ i, st ≠ .tell i) (ed : dueS S due st = due.set st.at t) (pl : st.at < due.length) :
    ∃ S', runD ([.drop 1, .drop 2] ++ broughtD st ++ storedD st.at) S = some S' ∧ Fr nf S' (dueS S due st) ∧ S'.cs.length = (rowsS S due st).length ∧ ∀ i, nf ≤ i → S'.cs[i]? = (rowsS S due st)[i]? := by
  have F0 := F.drops
  have e0 : rowsS ⟨(S.hs.set 1 .no).set 2 .no, S.cs⟩ due st = rowsS S due st := by cases st <;> rfl
  have e1 : dueS ⟨(S.hs.set 1 .no).set 2 .no, S.cs⟩ due st = dueS S due st := by cases st <;> rfl
  have ok0 : OkS ⟨(S.hs.set 1 .no).set 2 .no, S.cs⟩ due st := by cases st <;> exact ok
  obtain ⟨hs, r1, r2, r3, r4⟩ := F0.brought (t := t) ok0 ex ex2 (by show ((S.hs.set 1 .no).set 2 .no)[1]? = _; rw [List.getElem?_set_ne (by decide), set_at F.h3 (by decide)]) (by rw [e1]; exact ed)
  rw [e0] at r1 r3 r4
  rw [e1] at r2 r4
  obtain ⟨hs', cs', s1, s2, s3, s4, s5⟩ := r3.store pl r2 r4
  refine ⟨⟨hs', cs'⟩, ?_, ?_, s4, s5⟩
  · rw [List.append_assoc, F.drop, run_app r1]
    exact s1
  · rw [ed, getD_of (List.getElem?_set_self pl)] at s3
    rw [ed]
    exact s3
theorem Fr.all (F : Fr nf S due) {st : Sm} (ok : OkS S due st) : ∃ S', runD (deedsD st) S = some S' ∧ Fr nf S' (dueS S due st) ∧ S'.cs.length = (rowsS S due st).length ∧ (∀ i, nf ≤ i → S'.cs[i]? = (rowsS S due st)[i]?) ∧
    (∀ i, st = .tell i → S'.hs[1]? = due[i]?) := by
  have F0 := F.drops
  cases st with
  | tell i =>
    obtain ⟨t, et⟩ := at_lt ok
    refine ⟨⟨((S.hs.set 1 .no).set 2 .no).set 1 t, S.cs⟩, ?_, F0.setH (by decide), rfl, fun _ _ => rfl, fun j e => ?_⟩
    · show runD ([.drop 1, .drop 2] ++ loadedD i 1 ++ [.read 1]) S = _
      rw [List.append_assoc, F.drop, run_app (F0.load et (by decide) (by decide))]
      rfl
    · cases e
      show (((S.hs.set 1 .no).set 2 .no).set 1 t)[1]? = _
      rw [set_at F0.h3 (by decide), et]
  | set c s j =>
    obtain ⟨h1, k, row, h2, h3, h4⟩ := ok
    obtain ⟨t, et⟩ := at_lt h1
    have er : rowsS S due (.set c s j) = S.cs.set k (row.set s t) := by
      show (match due.getD c .no with | .cell k => S.cs.set k ((S.cs.getD k []).set s (due.getD j .no)) | _ => S.cs) = _
      rw [getD_of h2]
      dsimp only
      rw [getD_of h3, getD_of et]
    have F1 := F0.setH (h := 1) (t := t) (by decide)
    have F2 := F1.setH (h := 2) (t := .cell k) (by decide)
    refine ⟨⟨(((S.hs.set 1 .no).set 2 .no).set 1 t).set 2 (.cell k), S.cs.set k (row.set s t)⟩, ?_, F2.setC (F.okd _ _ h2).1 h3 (F.okd _ _ et), by rw [er], fun _ _ => by rw [er], fun i e => by cases e⟩
    show runD ([.drop 1, .drop 2] ++ loadedD j 1 ++ loadedD c 2 ++ [.put 2 s 1]) S = _
    rw [List.append_assoc, List.append_assoc, F.drop, run_app (F0.load et (by decide) (by decide)), run_app (F1.load h2 (by decide) (by decide))]
    show (step _ _).bind _ = _
    rw [step_put (S := ⟨_, S.cs⟩) (set_at F1.h3 (by decide)) h3 (by rw [List.getElem?_set_ne (by decide)]; exact set_at F0.h3 (by decide)) h4]
    rfl
  | make i n =>
    obtain ⟨S', a, b, c, d⟩ := F.finish (st := .make i n) (t := .cell S.cs.length) ok (fun _ _ _ z => by cases z) (fun _ z => by cases z) rfl ok.1
    exact ⟨S', a, b, c, d, fun _ e => by cases e⟩
  | keep i n =>
    obtain ⟨S', a, b, c, d⟩ := F.finish (st := .keep i n) (t := .num n) ok (fun _ _ _ z => by cases z) (fun _ z => by cases z) rfl ok
    exact ⟨S', a, b, c, d, fun _ e => by cases e⟩
  | copy i j =>
    obtain ⟨S', a, b, c, d⟩ := F.finish (st := .copy i j) (t := due.getD j .no) ok (fun _ _ _ z => by cases z) (fun _ z => by cases z) rfl ok.1
    exact ⟨S', a, b, c, d, fun _ e => by cases e⟩
  | drop i =>
    obtain ⟨S', a, b, c, d⟩ := F.finish (st := .drop i) (t := .no) ok (fun _ _ _ z => by cases z) (fun _ z => by cases z) rfl ok
    exact ⟨S', a, b, c, d, fun _ e => by cases e⟩
  | get i c s =>
    obtain ⟨S', a, b, c', d⟩ := F.finish (st := .get i c s) ok (fun _ _ _ z => by cases z) (fun _ z => by cases z) rfl ok.1
    exact ⟨S', a, b, c', d, fun _ e => by cases e⟩
end
/-- the frames alone -/
def frameRow (i : Nat) : List Th := List.replicate 7 .no ++ [if i = 0 then .no else .cell (i - 1)]
theorem begun_run {n : Nat} (hn : 0 < n) : ∃ S, runD (begunD n) ⟨[.no, .no, .no], []⟩ = some S ∧ Fr ((n + 6) / 7) S (List.replicate n .no) ∧ S.cs.length = (n + 6) / 7 ∧ S.hs[1]? = some .no ∧ S.hs[2]? = some .no := by
  have : ∀ m, ∃ a, runD ((List.range (m + 1)).map frameD).flatten ⟨[.no, .no, .no], []⟩ = some ⟨[.cell m, a, .no], (List.range (m + 1)).map frameRow⟩ ∧ (m = 0 → a = .no) := by
    intro m
    induction m with
    | zero => exact ⟨.no, rfl, fun _ => rfl⟩
    | succ m ih =>
      obtain ⟨a, ih, -⟩ := ih
      refine ⟨.cell m, ?_, fun z => by cases z⟩
      rw [List.range_succ, List.map_append, List.flatten_append, run_app ih, List.map_append]
      generalize hR : (List.range (m + 1)).map frameRow = R
      have l : R.length = m + 1 := by rw [← hR, List.length_map, List.length_range]
      show runD (frameD (m + 1) ++ []) _ = _
      rw [List.append_nil]
      unfold frameD
      rw [if_pos (by omega), if_pos (by omega)]
      show runD [.share 1 0, .make 0 8, .put 0 7 1] ⟨[.cell m, a, .no], R⟩ = _
      show runD [.make 0 8, .put 0 7 1] ⟨[.cell m, .cell m, .no], R⟩ = _
      show runD [.put 0 7 1] ⟨[.cell R.length, .cell m, .no], R ++ [List.replicate 8 .no]⟩ = _
      show (step _ _).bind _ = _
      rw [step_put (h := 0) (s := 7) (g := 1) (S := ⟨[.cell R.length, .cell m, .no], R ++ [List.replicate 8 Th.no]⟩) (k := R.length) (row := List.replicate 8 Th.no) (t := .cell m) rfl (by rw [List.getElem?_concat_length]) rfl (by decide)]
      show some _ = some _
      rw [List.set_append_right _ _ (Nat.le_refl _), Nat.sub_self, l]
      rfl
  have nf : (n + 6) / 7 = (n - 1) / 7 + 1 := by omega
  obtain ⟨a, e, ea⟩ := this ((n - 1) / 7)
  unfold begunD
  rw [nf]
  refine ⟨⟨[.cell ((n - 1) / 7), .no, .no], (List.range ((n - 1) / 7 + 1)).map frameRow⟩, ?_, ?_, by rw [List.length_map, List.length_range], rfl, rfl⟩
  · rw [run_app e]
    split
    · rfl
    · rw [ea (by omega)]
      rfl
  · have row : ∀ i, i < (n - 1) / 7 + 1 → ((List.range ((n - 1) / 7 + 1)).map frameRow)[i]? = some (frameRow i) := fun i hi => by
      rw [List.getElem?_map, List.getElem?_range hi]
      rfl
    refine ⟨Nat.succ_pos _, by rw [List.length_replicate]; omega, rfl, rfl, by rw [List.length_map, List.length_range]; exact Nat.le_refl _, fun i hi => ⟨_, row i hi, rfl, rfl⟩, fun p t e => ?_, fun p t e => ?_, fun i r s t hi e1 e2 => ?_⟩
    · rw [List.getElem?_replicate] at e
      split at e
      · cases e
        refine ⟨_, row _ (by omega), ?_⟩
        unfold frameRow
        rw [List.getElem?_append_left (by rw [List.length_replicate]; omega), List.getElem?_replicate, if_pos (by omega)]
      · cases e
    · rw [List.getElem?_replicate] at e
      split at e
      · cases e
        exact trivial
      · cases e
    · have := (List.getElem?_eq_some_iff.mp e1).1
      rw [List.length_map, List.length_range] at this
      omega

local macro_rules | `(tactic| walk_at "wt") => `(tactic| try simp only [↓x_var0, ↓x_varS, ↓x_c, ↓x_op, ↓x_un, ↓x_cb, ↓x_nil, ↓x_cons, ↓x_test, ↓x_b, ↓x_ex, ↓x_and, ↓x_or, ↓x_not, ↓x_andV, ↓x_orV, ↓x_notV, ↓x_tif, ↓x_chain, ↓x_menu, ↓x_menuI, ↓x_lst, ↓x_tup, ↓x_dnew, ↓x_callW, ↓x_callN, ↓x_seq, ↓x_next, ↓x_ret, ↓x_retN, ↓x_drop, ↓x_ifS, ↓x_asg, ↓x_name, ↓x_raise, ↓x_fld, ↓x_setF, ↓x_meth, ↓x_make, ↓x_sub, ↓r_min, ↓r_max, ↓x_yes, ↓x_for, ↓x_lock, ↓x_keys, ↓x_cut, ↓x_lc, ↓x_rng1, ↓x_rng2, ↓x_lst1, ↓x_itup, ↓x_rng3, ↓x_three, ↓x_lstg, ↓x_tupg, ↓x_adrS, ↓x_one, ↓x_two, ↓x_adr, ↓x_sl, ↓x_np, ↓x_pt, ↓x_int, ↓x_bm, ↓x_bm0, ↓x_consg, ↓x_nilg, ↓x_dget2, ↓x_dget1, ↓x_dget, ↓x_din, ↓x_dni, ↓x_dput, ↓x_dpop2, ↓r_isB, ↓r_notB, ↓x_enum, ↓x_zip, ↓x_str, ↓x_strE, ↓r_inS, ↓r_ninS, wipe, List.map_cons, List.map_nil, ↓x_isT, ↓r_isiII, ↓r_isiBB, ↓r_isiIB, ↓r_isiSS, ↓r_neNS, ↓r_neSN, ↓r_neNN, ↓r_eqNS, ↓r_eqSN, ↓r_eqNN, ↓r_eqIS, ↓r_neIS, ↓r_neSI, ↓r_neBS, ↓r_eqBB, ↓r_neBB, ↓x_start, ↓x_K, ↓x_start0, ↓r_i0, ↓r_i, ↓r_u, ↓r_addI, ↓r_addS, ↓r_mulI, ↓r_mulS, ↓r_eqI, ↓r_neI, ↓r_eqS, ↓r_neS, ↓r_absI, ↓r_intI, ↓r_intB, List.length_cons, List.length_nil, List.replicate, List.set_cons_zero, List.set_cons_succ, decide_eq_true_eq, Bool.not_eq_true', decide_eq_false_iff_not, if_true, if_false, Bool.false_eq_true, Bool.true_eq_false, ite_true, ite_false, Bool.not_true, Bool.not_false, c_div, n_ten, c_pow, not_true_eq_false, not_false_eq_true, decide_true, decide_false, true_and, and_true, and_self, true_or, or_true, Int.reduceLT, Int.reduceLE, Int.reduceMul, Int.reduceAdd, Int.reduceSub, Int.reducePow, Int.reduceNeg, Int.reduceDiv, Int.reduceMod, Nat.reducePow, Int.reduceToNat, Int.reduceEq, Int.reduceNe, Nat.reduceLT, Nat.reduceLeDiff, Nat.reduceAdd, ↓x_whole, ↓x_disp, ↓x_pnil, ↓x_pcons])
/-! ## deeds and statements as tuples -/
def De.V : De → List V
  | .make h n => [.str "make", .int h, .int n]
  | .keep h n => [.str "keep", .int h, .int n]
  | .share h g => [.str "share", .int h, .int g]
  | .drop h => [.str "drop", .int h]
  | .take h g s => [.str "take", .int h, .int g, .int s]
  | .put h s g => [.str "put", .int h, .int s, .int g]
  | .read h => [.str "read", .int h]
def DeL (H : Hp) (vs : List V) (ds : List De) : Prop := vs.length = ds.length ∧ ∀ (i : Nat) (d : De), ds[i]? = some d → ∃ t, vs[i]? = some (.ref t) ∧ H t = some (.tup d.V)
theorem DeL.nil {H : Hp} : DeL H [] [] := ⟨rfl, fun i d e => by cases e⟩
theorem DeL.same {H H' : Hp} {vs : List V} {ds : List De} (D : DeL H vs ds) (s : Same H H') : DeL H' vs ds := ⟨D.1, fun i d e => let ⟨t, a, b⟩ := D.2 i d e; ⟨t, a, s _ _ b⟩⟩
theorem DeL.app {H : Hp} {vs ws : List V} {ds es : List De} (D : DeL H vs ds) (E : DeL H ws es) : DeL H (vs ++ ws) (ds ++ es) := by
  refine ⟨by rw [List.length_append, List.length_append, D.1, E.1], fun i d e => ?_⟩
  by_cases c : i < ds.length
  · rw [List.getElem?_append_left c] at e
    rw [List.getElem?_append_left (by rw [D.1]; exact c)]
    exact D.2 i d e
  · rw [List.getElem?_append_right (by omega)] at e
    rw [List.getElem?_append_right (by rw [D.1]; omega), D.1]
    exact E.2 _ d e
theorem DeL.one {H : Hp} {t : Addr} {d : De} (h : H t = some (.tup d.V)) : DeL H [.ref t] [d] := ⟨rfl, fun i e g => by
  cases i with
  | zero => cases g; exact ⟨t, rfl, h⟩
  | succ i => cases g⟩
theorem DeL.two {H : Hp} {t u : Addr} {d e : De} (h : H t = some (.tup d.V)) (g : H u = some (.tup e.V)) : DeL H [.ref t, .ref u] [d, e] := (DeL.one h).app (DeL.one g)
/-- deeds that are written down one by one -/
structure Bu (H : Hp) (l : Addr) (ds : List De) (H' : Hp) : Prop where
  s : Same H H'
  new : H l = none
  g : ∃ rs, H' l = some (.lst rs) ∧ DeL H' rs ds
theorem Bu.ty {K : PySem.W.Frag} {H H1 : Hp} {l : Addr} {ds : List De} (B : Bu H l ds H1) : tyV K "list" (.ref l) H1 := let ⟨_, g, _⟩ := B.g; .inl ⟨rfl, _, .of g⟩
theorem Bu.ap {H H1 : Hp} {l : Addr} {ds : List De} {d : De} {Q : VK} (B : Bu H l ds H1) (hz : ds.length < sizeLine) (k : ∀ H2, Bu H l (ds ++ [d]) H2 → Q .non H2) :
    ∀ p, H1 p = none → rAppend (.ref l) [.ref p] (upd H1 p (.tup d.V)) Q := by
  obtain ⟨s, new, rs, g, D⟩ := B
  intro p np
  have pl : l ≠ p := ne_of_none g np
  have s1 := same_new (o := .tup d.V) np
  refine ⟨l, rs, _, rfl, rfl, s1 _ _ g, by rw [D.1]; exact hz, k _ ⟨fun b o e => (upd_ne (ne_of_none e new)).trans (s1 _ _ (s _ _ e)), new, _, upd_same, ?_⟩⟩
  have keep : ∀ t xs, upd H1 p (.tup d.V) t = some (.tup xs) → upd (upd H1 p (.tup d.V)) l (.lst (rs ++ [.ref p])) t = some (.tup xs) := fun t xs e => by
    rw [upd_ne]
    · exact e
    · intro z
      rw [z, s1 _ _ g] at e
      cases e
  have D1 := (D.same s1).app (DeL.one (d := d) (t := p) upd_same)
  exact ⟨D1.1, fun i e h => let ⟨t, a, b⟩ := D1.2 i e h; ⟨t, a, keep _ _ b⟩⟩
/-- a new list of deeds -/
def NewD (H : Hp) (Q : VK) (ds : List De) : Prop := ∀ l rs H', H l = none → Same H H' → H' l = some (.lst rs) → DeL H' rs ds → Q (.ref l) H'
theorem NewD.of {H H' : Hp} {Q : VK} {l : Addr} {ds : List De} (h : NewD H Q ds) (B : Bu H l ds H') : Q (.ref l) H' := let ⟨rs, g, D⟩ := B.g; h l rs H' B.new B.s g D
def Once (N : List (List Nat)) : Prop := ∀ (i j : Nat) (x : List Nat), N[i]? = some x → N[j]? = some x → i = j
abbrev nmV (N : List (List Nat)) (i : Nat) : V := .str (Sg (N.getD i []))
def Sm.V (N : List (List Nat)) : Sm → List V
  | .make i n => [.str "make", nmV N i, .int n]
  | .keep i n => [.str "keep", nmV N i, .int n]
  | .copy i j => [.str "copy", nmV N i, nmV N j]
  | .drop i => [.str "drop", nmV N i]
  | .get i c s => [.str "get", nmV N i, nmV N c, .int s]
  | .set c s j => [.str "set", nmV N c, .int s, nmV N j]
  | .tell i => [.str "tell", nmV N i]
/-- names and sizes of a statement are some -/
def OkN (n : Nat) : Sm → Prop
  | .make i _ | .keep i _ | .drop i | .tell i => i < n
  | .copy i j => i < n ∧ j < n
  | .get i c _ => i < n ∧ c < n
  | .set c _ j => c < n ∧ j < n
theorem nm_at {N : List (List Nat)} {i : Nat} (h : i < N.length) : N[i]? = some (N.getD i []) := getD_at h
theorem wayD_len {q h : Nat} : (wayD q h).length ≤ q + 1 := by
  unfold wayD
  rw [List.length_cons, List.length_replicate]
  omega
theorem loadedD_len {p h : Nat} : (loadedD p h).length ≤ p + 2 := by
  unfold loadedD
  split
  · show 1 ≤ _
    omega
  · have := wayD_len (q := p / 7) (h := h)
    rw [List.length_append]
    show _ + 1 ≤ _
    omega
theorem storedD_len {p : Nat} : (storedD p).length ≤ p + 2 := by
  unfold storedD
  split
  · show 1 ≤ _
    omega
  · have := wayD_len (q := p / 7) (h := 2)
    rw [List.length_append]
    show _ + 1 ≤ _
    omega
theorem r_index {K : PySem.W.Frag} {H : Hp} {Q : VK} {a : Addr} {N : List (List Nat)} {p : Nat} {x : List Nat} (ha : H a = some (.lst (SgL N))) (o : Once N) (e : N[p]? = some x) (q : Q (.int (p : Int)) H) :
    tyV K "list" (.ref a) H ∧ rIndex K (.ref a) [.str (Sg x)] H Q := by
  refine ⟨.inl ⟨rfl, _, .of ha⟩, a, SgL N, _, p, _, rfl, rfl, .of ha, rfl, SgL_flat, SgL_at e, by show (Sg x == Sg x) = true; exact beq_self_eq_true _, fun m z' hm hz => ?_, q⟩
  obtain ⟨y, ey, rfl⟩ := SgL_mem hz
  show (Sg y == Sg x) = false
  refine beq_eq_false_iff_ne.mpr fun c => ?_
  have := o m p x (by rw [← Sg_inj.mp c]; exact ey) e
  omega
theorem Bu.one {H : Hp} {p l : Addr} {d : De} (np : H p = none) (nl : upd H p (.tup d.V) l = none) : Bu H l [d] (upd (upd H p (.tup d.V)) l (.lst [.ref p])) :=
  ⟨(same_new np).trans (same_new nl), none_of (same_new np) nl, _, upd_same, DeL.one ((same_new nl) _ _ upd_same)⟩
/-- two lists of deeds, one behind the other -/
theorem Bu.cat {H H1 H2 : Hp} {l m p : Addr} {ds es : List De} {rs ws : List V} (s : Same H H1) (s2 : Same H1 H2) (g : H2 l = some (.lst rs)) (g2 : H2 m = some (.lst ws)) (D : DeL H2 rs ds) (E : DeL H2 ws es) (np : H2 p = none) : Bu H p (ds ++ es) (upd H2 p (.lst (rs ++ ws))) :=
  ⟨(s.trans s2).trans (same_new np), none_of (s.trans s2) np, _, upd_same, (D.app E).same (same_new np)⟩
theorem Bu.plus {H H1 : Hp} {l : Addr} {ds es : List De} {Q : VK} (B : Bu H l ds H1) (hz : ds.length + es.length ≤ sizeLine) (k : ∀ p H2, Bu H p (ds ++ es) H2 → Q (.ref p) H2) : NewD H1 (fun y H2 => gAdd (.ref l) y H2 Q) es := by
  intro m ws H2 nm s g D
  obtain ⟨rs, gl, D0⟩ := B.g
  exact ⟨rs, ws, s _ _ gl, g, by rw [D0.1, D.1]; exact hz, fun p np => k p _ (Bu.cat B.s s (s _ _ gl) g (D0.same s) D np)⟩
theorem Bu.lit {H H1 : Hp} {l : Addr} {ds : List De} {d : De} {Q : VK} (B : Bu H l ds H1) (hz : ds.length + 1 ≤ sizeLine) (k : ∀ p H2, Bu H p (ds ++ [d]) H2 → Q (.ref p) H2) :
    ∀ p1, H1 p1 = none → ∀ p2, upd H1 p1 (.tup d.V) p2 = none → gAdd (.ref l) (.ref p2) (upd (upd H1 p1 (.tup d.V)) p2 (.lst [.ref p1])) Q := fun p1 n1 p2 n2 => by
  have C := Bu.one (d := d) n1 n2
  obtain ⟨ws, g, D⟩ := C.g
  exact B.plus (es := [d]) hz k p2 ws _ C.new C.s g D
theorem Bu.two {H : Hp} {p1 p2 l : Addr} {d e : De} (n1 : H p1 = none) (n2 : upd H p1 (.tup d.V) p2 = none) (nl : upd (upd H p1 (.tup d.V)) p2 (.tup e.V) l = none) : Bu H l [d, e] (upd (upd (upd H p1 (.tup d.V)) p2 (.tup e.V)) l (.lst [.ref p1, .ref p2])) := by
  have s1 := same_new (o := .tup d.V) n1
  have s2 := same_new (o := .tup e.V) n2
  have s3 := same_new (o := .lst [.ref p1, .ref p2]) nl
  exact ⟨(s1.trans s2).trans s3, none_of (s1.trans s2) nl, _, upd_same, DeL.two (s3 _ _ (s2 _ _ upd_same)) (s3 _ _ upd_same)⟩
theorem frames_len : ∀ {i : Nat}, (((List.range i).map frameD).flatten).length ≤ 3 * i
  | 0 => Nat.zero_le _
  | i + 1 => by
    rw [List.range_succ, List.map_append, List.flatten_append, List.length_append]
    have := frames_len (i := i)
    have : ((List.map frameD [i]).flatten).length ≤ 3 := by
      show (frameD i ++ []).length ≤ 3
      rw [List.append_nil]
      unfold frameD
      split
      · show 3 ≤ 3
        decide
      · show 1 ≤ 3
        decide
    omega
def sp_begun (_ : PySem.W.Frag) : Sp := fun vs H Q _ => ∃ a, ∃ N : List (List Nat), vs = [.ref a] ∧ H a = some (.lst (SgL N)) ∧ N.length ≤ 1000 ∧ NewD H Q (begunD N.length)
def sp_way_to (_ : PySem.W.Frag) : Sp := fun vs H Q _ => ∃ q h : Nat, vs = [.int q, .int h] ∧ 1 ≤ q ∧ q ≤ 1000 ∧ NewD H Q (wayD q h)
def sp_loaded (_ : PySem.W.Frag) : Sp := fun vs H Q _ => ∃ a p h N x, vs = [.ref a, .str (Sg x), .int (h : Nat)] ∧ H a = some (.lst (SgL N)) ∧ N.length ≤ 1000 ∧ Once N ∧ N[p]? = some x ∧ NewD H Q (loadedD p h)
def sp_stored (_ : PySem.W.Frag) : Sp := fun vs H Q _ => ∃ a p N x, vs = [.ref a, .str (Sg x)] ∧ H a = some (.lst (SgL N)) ∧ N.length ≤ 1000 ∧ Once N ∧ N[p]? = some x ∧ NewD H Q (storedD p)
def sp_brought (_ : PySem.W.Frag) : Sp := fun vs H Q _ => ∃ a t N st, vs = [.ref a, .ref t] ∧ H a = some (.lst (SgL N)) ∧ N.length ≤ 1000 ∧ Once N ∧ H t = some (.tup (Sm.V N st)) ∧ OkN N.length st ∧ NewD H Q (broughtD st)
def sp_deeds_of (_ : PySem.W.Frag) : Sp := fun vs H Q _ => ∃ a t N st, vs = [.ref a, .ref t] ∧ H a = some (.lst (SgL N)) ∧ N.length ≤ 1000 ∧ Once N ∧ H t = some (.tup (Sm.V N st)) ∧ OkN N.length st ∧ NewD H Q (deedsD st)
section
variable {P : Program} {w : World} {K : PySem.W.Frag} {mg : Str → Option Value} {base : Heap}
theorem f_begun (T : Tx K mg) : Fn P w K mg base 1 "begun" ["names"] (sp_begun K) := by
  refine T.mkFn 0 0 (d := d_begun) (N := ["names", "deeds", "number"]) (k := 0) rfl rfl rfl rfl rfl sc_begun (fun _ _ _ _ _ _ us hl => match us, hl with | [_], _ => rfl) (fun vs H Q E h => ?len) (fun cdv A outer s H vs Q E hr h => ⟨_,
      (pss_cons (ps_set (i := 1) sc_begun.nd rfl (Or.inl rfl) (pe_lst pa_nil))
        (pss_cons (ps_for (passes_of rfl) rfl (pi_range1 rfl (T.free 24) (pa_cons (pe_op op_fdiv (pe_op op_sub (pe_op op_gAdd (pe_callB (call_lenK (K := K) rfl) (by rfl) (T.free 23) PySem.boot_len (pa_cons (pv 0) pa_nil)) (pe_num (T.num 19) (by rfl))) pe_int) (pe_num (T.num 19) (by rfl))) pa_nil)) (pg_name (i := 2) sc_begun.nd rfl (Or.inl rfl)) (pss_cut (ps_if (pt_cmpR op_gt (pv 2) pe_int (nomark _)) (pss_one (ps_expr (pe_bm PySem.F.plainAttrs_list PySem.F.slot_list_append PySem.F.type_list_append mt_append (pv 1) (pa_cons (pe_tup (pa_cons pe_str (pa_cons pe_int (pa_cons pe_int pa_nil)))) pa_nil)))) pss_nil)
        (pss_cons (ps_expr (pe_bm PySem.F.plainAttrs_list PySem.F.slot_list_append PySem.F.type_list_append mt_append (pv 1) (pa_cons (pe_tup (pa_cons pe_str (pa_cons pe_int (pa_cons (pe_num (T.num 21) (by rfl)) pa_nil)))) pa_nil)))
        (pss_one (ps_if (pt_cmpR op_gt (pv 2) pe_int (nomark _)) (pss_one (ps_expr (pe_bm PySem.F.plainAttrs_list PySem.F.slot_list_append PySem.F.type_list_append mt_append (pv 1) (pa_cons (pe_tup (pa_cons pe_str (pa_cons pe_int (pa_cons (pe_num (T.num 20) (by rfl)) (pa_cons pe_int pa_nil))))) pa_nil)))) pss_nil)))))
        (pss_cut (ps_if (pt_cmpR op_gt (pe_callB (call_lenK (K := K) rfl) (by rfl) (T.free 23) PySem.boot_len (pa_cons (pv 0) pa_nil)) (pe_num (T.num 19) (by rfl)) (nomark _)) (pss_one (ps_expr (pe_bm PySem.F.plainAttrs_list PySem.F.slot_list_append PySem.F.type_list_append mt_append (pv 1) (pa_cons (pe_tup (pa_cons pe_str (pa_cons pe_int pa_nil))) pa_nil)))) pss_nil)
        (pss_one (ps_ret (pv 1)))))), ?rd⟩)
  case len => obtain ⟨_, _, rfl, _⟩ := h; rfl
  case rd =>
    obtain ⟨a, N, rfl, ha, hl, q⟩ := h
    have sz : 10000000 ≤ sizeLine := by rw [sizeLine_eq]; omega
    walk_at "wt"
    refine ⟨by omega, fun l nl => ?_⟩
    have B0 : Bu H l [] (upd H l (.lst [])) := ⟨same_new nl, nl, [], upd_same, .nil⟩
    refine r_lenL ((same_new nl) _ _ ha) ?_
    rw [SgL_len]
    walk_at "wt"
    refine ⟨by omega, by omega, ?_⟩
    rw [show (((N.length : Int) + 7 - 1) / 7).toNat = (N.length + 6) / 7 from by omega]
    refine forW_range (fun i σ H' => ∃ o3, σ = [some (.ref a), some (.ref l), o3] ∧ Bu H l ((List.range i).map frameD).flatten H') ⟨_, rfl, B0⟩ ?_ ?_
    · rintro i σ H' hi ⟨o3, rfl, B⟩
      have fl := frames_len (i := i)
      walk_at "wt"
      refine ⟨fun σ' H2 => σ' = [some (.ref a), some (.ref l), some (.int (0 + (i : Int)))] ∧ Bu H l (((List.range i).map frameD).flatten ++ if 0 < i then [.share 1 0] else []) H2, ?_, ?_⟩
      · split
        · exact ⟨B.ty, by omega, B.ap (d := .share 1 0) (by omega) fun H2 B2 => ⟨rfl, by rw [if_pos (by omega)]; exact B2⟩⟩
        · exact ⟨rfl, by rw [if_neg (by omega), List.append_nil]; exact B⟩
      rintro σ' H2 ⟨rfl, B2⟩
      walk_at "wt"
      have l2 : (((List.range i).map frameD).flatten ++ if 0 < i then [De.share 1 0] else []).length ≤ 3 * i + 1 := by
        rw [List.length_append]
        split
        · show _ + 1 ≤ _
          omega
        · show _ + 0 ≤ _
          omega
      refine ⟨B2.ty, by omega, B2.ap (d := .make 0 8) (by omega) fun H3 B3 => ?_⟩
      have l3 : ((((List.range i).map frameD).flatten ++ if 0 < i then [De.share 1 0] else []) ++ [De.make 0 8]).length ≤ 3 * i + 2 := by
        rw [List.length_append]
        show _ + 1 ≤ _
        omega
      have fin : ∀ H4, Bu H l (((((List.range i).map frameD).flatten ++ if 0 < i then [De.share 1 0] else []) ++ [De.make 0 8]) ++ if 0 < i then [De.put 0 7 1] else []) H4 → ∃ o3, [some (V.ref a), some (V.ref l), some (V.int (0 + (i : Int)))] = [some (.ref a), some (.ref l), o3] ∧ Bu H l ((List.range (i + 1)).map frameD).flatten H4 := fun H4 B4 => ⟨_, rfl, by
        rw [List.range_succ, List.map_append, List.flatten_append]
        show Bu H l (_ ++ (frameD i ++ [])) H4
        rw [List.append_nil]
        unfold frameD
        rw [List.append_assoc, List.append_assoc] at B4
        exact B4⟩
      split
      · exact ⟨B3.ty, by omega, B3.ap (d := .put 0 7 1) (by omega) fun H4 B4 => fin H4 (by
          have hi0 : 0 < i := by omega
          simp only [if_pos hi0] at B4 ⊢
          exact B4)⟩
      · refine fin H3 ?_
        have hi0 : ¬ 0 < i := by omega
        simp only [if_neg hi0, List.append_nil] at B3 ⊢
        exact B3
    rintro σ H1 ⟨o3, rfl, B⟩
    walk_at "wt"
    unfold begunD at q
    have fl := frames_len (i := (N.length + 6) / 7)
    refine ⟨fun σ' H2 => σ' = [some (.ref a), some (.ref l), o3] ∧ Bu H l (((List.range ((N.length + 6) / 7)).map frameD).flatten ++ if 7 < N.length then [.drop 1] else []) H2, ?_, ?_⟩
    · refine r_lenL (B.s _ _ ha) ?_
      rw [SgL_len]
      walk_at "wt"
      split
      · exact ⟨B.ty, by omega, B.ap (d := .drop 1) (by omega) fun H2 B2 => by rw [if_pos (by omega)]; exact B2⟩
      · rw [if_neg (by omega), List.append_nil]
        exact B
    rintro σ' H2 ⟨rfl, B2⟩
    walk_at "wt"
    exact q.of B2
theorem f_way_to (T : Tx K mg) : Fn P w K mg base 1 "way_to" ["number", "hand"] (sp_way_to K) := by
  refine T.mkFn 1 1 (d := d_way_to) (N := ["number", "hand", "deeds", "turn"]) (k := 0) rfl rfl rfl rfl rfl sc_way_to (fun _ _ _ _ _ _ us hl => match us, hl with | [_, _], _ => rfl) (fun vs H Q E h => ?len) (fun cdv A outer s H vs Q E hr h => ⟨_,
      (pss_cons (ps_set (i := 2) sc_way_to.nd rfl (Or.inl rfl) (pe_lst (pa_cons (pe_tup (pa_cons pe_str (pa_cons (pv 1) (pa_cons pe_int (pa_cons (pe_num (T.num 20) (by rfl)) pa_nil))))) pa_nil)))
        (pss_cons (ps_for (passes_of rfl) rfl (pi_range1 rfl (T.free 24) (pa_cons (pe_op op_sub (pv 0) pe_int) pa_nil)) (pg_name (i := 3) sc_way_to.nd rfl (Or.inl rfl)) (pss_one (ps_expr (pe_bm PySem.F.plainAttrs_list PySem.F.slot_list_append PySem.F.type_list_append mt_append (pv 2) (pa_cons (pe_tup (pa_cons pe_str (pa_cons (pv 1) (pa_cons (pv 1) (pa_cons (pe_num (T.num 20) (by rfl)) pa_nil))))) pa_nil)))))
        (pss_one (ps_ret (pv 2))))), ?rd⟩)
  case len => obtain ⟨_, _, rfl, _⟩ := h; rfl
  case rd =>
    obtain ⟨n, h, rfl, h1, h2, q⟩ := h
    have sz : 10000000 ≤ sizeLine := by rw [sizeLine_eq]; omega
    walk_at "wt"
    refine ⟨by omega, fun p np => ⟨by omega, fun l nl => ⟨by omega, by omega, ?_⟩⟩⟩
    have B0 := Bu.one (d := .take h 0 7) np nl
    rw [show ((n : Int) - 1).toNat = n - 1 from by omega]
    refine forW_range (fun i σ H' => ∃ o3, σ = [some (.int (n : Int)), some (.int (h : Int)), some (.ref l), o3] ∧ Bu H l (.take h 0 7 :: List.replicate i (.take h h 7)) H') ⟨_, rfl, B0⟩ ?_ ?_
    · rintro i σ H' hi ⟨o3, rfl, B⟩
      walk_at "wt"
      refine ⟨B.ty, by omega, B.ap (d := .take h h 7) (by rw [List.length_cons, List.length_replicate]; omega) fun H2 B2 => ⟨_, rfl, ?_⟩⟩
      show Bu H l (.take h 0 7 :: List.replicate (i + 1) (.take h h 7)) H2
      rw [List.replicate_succ']
      exact B2
    · rintro σ H' ⟨o3, rfl, B⟩
      walk_at "wt"
      exact q.of B
theorem f_loaded (T : Tx K mg) : Fn P w K mg base 2 "loaded" ["names", "name", "hand"] (sp_loaded K) := by
  have c_way_to := f_way_to (P := P) (w := w) (base := base) T
  refine T.mkFn 2 2 (d := d_loaded) (N := ["names", "name", "hand", "place"]) (k := 1) rfl rfl rfl rfl rfl sc_loaded (fun _ _ _ _ _ _ us hl => match us, hl with | [_, _, _], _ => rfl) (fun vs H Q E h => ?len) (fun cdv A outer s H vs Q E hr h => ⟨_,
      (pss_cons (ps_set (i := 3) sc_loaded.nd rfl (Or.inl rfl) (pe_bm PySem.F.plainAttrs_list PySem.F.slot_list_index PySem.F.type_list_index (mt_indexK (K := K) rfl) (pv 0) (pa_cons (pv 1) pa_nil)))
        (pss_cons (ps_if (pt_cmpR op_lt (pv 3) (pe_num (T.num 19) (by rfl)) (nomark _)) (pss_one (ps_ret (pe_lst (pa_cons (pe_tup (pa_cons pe_str (pa_cons (pv 2) (pa_cons pe_int (pa_cons (pv 3) pa_nil))))) pa_nil)))) pss_nil)
        (pss_one (ps_ret (pe_op op_gAdd (pe_fn (takes_of rfl rfl rfl rfl) c_way_to (hr.mono (by decide)) (by rfl) (pa_cons (pe_op op_fdiv (pv 3) (pe_num (T.num 19) (by rfl))) (pa_cons (pv 2) pa_nil))) (pe_lst (pa_cons (pe_tup (pa_cons pe_str (pa_cons (pv 2) (pa_cons (pv 2) (pa_cons (pe_op op_mod (pv 3) (pe_num (T.num 19) (by rfl))) pa_nil))))) pa_nil))))))), ?rd⟩)
  case len => obtain ⟨_, _, _, _, _, rfl, _⟩ := h; rfl
  case rd =>
    obtain ⟨a, p, h, N, x, rfl, ha, hl, o, e, q⟩ := h
    have sz : 10000000 ≤ sizeLine := by rw [sizeLine_eq]; omega
    have pl := (List.getElem?_eq_some_iff.mp e).1
    walk_at "wt"
    refine r_index ha o e ?_
    walk_at "wt"
    unfold loadedD at q
    split
    · rw [if_pos (by omega)] at q
      exact ⟨by omega, fun p1 n1 => ⟨by omega, fun p2 n2 => q.of (Bu.one (d := .take h 0 p) n1 n2)⟩⟩
    · rw [if_neg (by omega)] at q
      rw [show (p : Int) / 7 = ((p / 7 : Nat) : Int) from by omega, show (p : Int) % 7 = ((p % 7 : Nat) : Int) from by omega]
      refine ⟨p / 7, h, rfl, by omega, by omega, fun l rs H1 nl s1 g D => ⟨by omega, fun p1 n1 => ⟨by omega, fun p2 n2 => ?_⟩⟩⟩
      have B := Bu.one (d := .take h h (p % 7)) n1 n2
      obtain ⟨ws, g2, E⟩ := B.g
      have wl := wayD_len (q := p / 7) (h := h)
      refine ⟨rs, ws, B.s _ _ g, g2, by rw [D.1, E.1]; show _ + 1 ≤ _; omega, fun p3 n3 => q.of (Bu.cat s1 B.s (B.s _ _ g) g2 (D.same B.s) E n3)⟩
theorem f_stored (T : Tx K mg) : Fn P w K mg base 2 "stored" ["names", "name"] (sp_stored K) := by
  have c_way_to := f_way_to (P := P) (w := w) (base := base) T
  refine T.mkFn 3 3 (d := d_stored) (N := ["names", "name", "place"]) (k := 1) rfl rfl rfl rfl rfl sc_stored (fun _ _ _ _ _ _ us hl => match us, hl with | [_, _], _ => rfl) (fun vs H Q E h => ?len) (fun cdv A outer s H vs Q E hr h => ⟨_,
      (pss_cons (ps_set (i := 2) sc_stored.nd rfl (Or.inl rfl) (pe_bm PySem.F.plainAttrs_list PySem.F.slot_list_index PySem.F.type_list_index (mt_indexK (K := K) rfl) (pv 0) (pa_cons (pv 1) pa_nil)))
        (pss_cons (ps_if (pt_cmpR op_lt (pv 2) (pe_num (T.num 19) (by rfl)) (nomark _)) (pss_one (ps_ret (pe_lst (pa_cons (pe_tup (pa_cons pe_str (pa_cons pe_int (pa_cons (pv 2) (pa_cons pe_int pa_nil))))) pa_nil)))) pss_nil)
        (pss_one (ps_ret (pe_op op_gAdd (pe_fn (takes_of rfl rfl rfl rfl) c_way_to (hr.mono (by decide)) (by rfl) (pa_cons (pe_op op_fdiv (pv 2) (pe_num (T.num 19) (by rfl))) (pa_cons pe_int pa_nil))) (pe_lst (pa_cons (pe_tup (pa_cons pe_str (pa_cons pe_int (pa_cons (pe_op op_mod (pv 2) (pe_num (T.num 19) (by rfl))) (pa_cons pe_int pa_nil))))) pa_nil))))))), ?rd⟩)
  case len => obtain ⟨_, _, _, _, rfl, _⟩ := h; rfl
  case rd =>
    obtain ⟨a, p, N, x, rfl, ha, hl, o, e, q⟩ := h
    have sz : 10000000 ≤ sizeLine := by rw [sizeLine_eq]; omega
    have pl := (List.getElem?_eq_some_iff.mp e).1
    walk_at "wt"
    refine r_index ha o e ?_
    walk_at "wt"
    unfold storedD at q
    split
    · rw [if_pos (by omega)] at q
      exact ⟨by omega, fun p1 n1 => ⟨by omega, fun p2 n2 => q.of (Bu.one (d := .put 0 p 1) n1 n2)⟩⟩
    · rw [if_neg (by omega)] at q
      rw [show (p : Int) / 7 = ((p / 7 : Nat) : Int) from by omega, show (p : Int) % 7 = ((p % 7 : Nat) : Int) from by omega]
      refine ⟨p / 7, 2, rfl, by omega, by omega, fun l rs H1 nl s1 g D => ⟨by omega, fun p1 n1 => ⟨by omega, fun p2 n2 => ?_⟩⟩⟩
      have B := Bu.one (d := .put 2 (p % 7) 1) n1 n2
      obtain ⟨ws, g2, E⟩ := B.g
      have wl := wayD_len (q := p / 7) (h := 2)
      refine ⟨rs, ws, B.s _ _ g, g2, by rw [D.1, E.1]; show _ + 1 ≤ _; omega, fun p3 n3 => q.of (Bu.cat s1 B.s (B.s _ _ g) g2 (D.same B.s) E n3)⟩
theorem f_brought (T : Tx K mg) : Fn P w K mg base 3 "brought" ["names", "statement"] (sp_brought K) := by
  have c_loaded := f_loaded (P := P) (w := w) (base := base) T
  refine T.mkFn 4 4 (d := d_brought) (N := ["names", "statement", "word"]) (k := 2) rfl rfl rfl rfl rfl sc_brought (fun _ _ _ _ _ _ us hl => match us, hl with | [_, _], _ => rfl) (fun vs H Q E h => ?len) (fun cdv A outer s H vs Q E hr h => ⟨_,
      (pss_cons (ps_set (i := 2) sc_brought.nd rfl (Or.inl rfl) (pe_ix (ix_seqK (K := K) rfl) (pv 1) pe_int (fun _ _ => rfl)))
        (pss_cons (ps_if (PW.pt (pw_or (pt_cmpR (op_eqK (K := K) rfl hr.units) (pv 2) pe_str (nomark _)) (pw_or1 (pt_cmpR (op_eqK (K := K) rfl hr.units) (pv 2) pe_str (nomark _))))) (pss_one (ps_ret (pe_lst (pa_cons (pe_tup (pa_cons (pv 2) (pa_cons pe_int (pa_cons (pe_ix (ix_seqK (K := K) rfl) (pv 1) pe_int (fun _ _ => rfl)) pa_nil)))) pa_nil)))) pss_nil)
        (pss_cons (ps_if (pt_cmpR (op_eqK (K := K) rfl hr.units) (pv 2) pe_str (nomark _)) (pss_one (ps_ret (pe_fn (takes_of rfl rfl rfl rfl) c_loaded (hr.mono (by decide)) (by rfl) (pa_cons (pv 0) (pa_cons (pe_ix (ix_seqK (K := K) rfl) (pv 1) pe_int (fun _ _ => rfl)) (pa_cons pe_int pa_nil)))))) pss_nil)
        (pss_cons (ps_if (pt_cmpR (op_eqK (K := K) rfl hr.units) (pv 2) pe_str (nomark _)) (pss_one (ps_ret (pe_op op_gAdd (pe_fn (takes_of rfl rfl rfl rfl) c_loaded (hr.mono (by decide)) (by rfl) (pa_cons (pv 0) (pa_cons (pe_ix (ix_seqK (K := K) rfl) (pv 1) pe_int (fun _ _ => rfl)) (pa_cons pe_int pa_nil)))) (pe_lst (pa_cons (pe_tup (pa_cons pe_str (pa_cons pe_int (pa_cons pe_int (pa_cons (pe_ix (ix_seqK (K := K) rfl) (pv 1) pe_int (fun _ _ => rfl)) pa_nil))))) pa_nil))))) pss_nil)
        (pss_one (ps_ret (pe_lst pa_nil))))))), ?rd⟩)
  case len => obtain ⟨_, _, _, _, rfl, _⟩ := h; rfl
  case rd =>
    obtain ⟨a, t, N, st, rfl, ha, hl, o, ht, ok, q⟩ := h
    have sz : 10000000 ≤ sizeLine := by rw [sizeLine_eq]; omega
    walk_at "wt"
    cases st with
    | make i n =>
      refine r_ixT (i := 0) ht rfl ?_
      walk_at "wt"
      refine r_ixT (i := 2) ht rfl ?_
      exact ⟨by omega, fun p1 n1 => ⟨by omega, fun p2 n2 => q.of (Bu.one (d := .make 1 n) n1 n2)⟩⟩
    | keep i n =>
      refine r_ixT (i := 0) ht rfl ?_
      walk_at "wt"
      refine r_ixT (i := 2) ht rfl ?_
      exact ⟨by omega, fun p1 n1 => ⟨by omega, fun p2 n2 => q.of (Bu.one (d := .keep 1 n) n1 n2)⟩⟩
    | copy i j =>
      refine r_ixT (i := 0) ht rfl ?_
      walk_at "wt"
      repeat rw [if_neg (by decide +kernel)]
      walk_at "wt"
      refine r_ixT (i := 2) ht rfl ?_
      exact ⟨a, j, 1, N, N.getD j [], rfl, ha, hl, o, nm_at ok.2, q⟩
    | drop i =>
      refine r_ixT (i := 0) ht rfl ?_
      walk_at "wt"
      repeat rw [if_neg (by decide +kernel)]
      exact ⟨by omega, fun p np => q.of ⟨same_new np, np, [], upd_same, .nil⟩⟩
    | get i c s =>
      refine r_ixT (i := 0) ht rfl ?_
      walk_at "wt"
      repeat rw [if_neg (by decide +kernel)]
      walk_at "wt"
      refine r_ixT (i := 2) ht rfl ?_
      refine ⟨a, c, 1, N, N.getD c [], rfl, ha, hl, o, nm_at ok.2, fun l rs H1 nl s1 g D => ?_⟩
      have h1 := s1 _ _ ht
      refine r_ixT (i := 3) h1 rfl ?_
      refine ⟨by omega, fun p1 n1 => ⟨by omega, fun p2 n2 => ?_⟩⟩
      have B := Bu.one (d := .take 1 1 s) n1 n2
      obtain ⟨ws, g2, E⟩ := B.g
      have wl := loadedD_len (p := c) (h := 1)
      have cl := ok.2
      exact ⟨rs, ws, B.s _ _ g, g2, by rw [D.1, E.1]; show _ + 1 ≤ _; omega, fun p3 n3 => q.of (Bu.cat s1 B.s (B.s _ _ g) g2 (D.same B.s) E n3)⟩
    | set c s j =>
      refine r_ixT (i := 0) ht rfl ?_
      walk_at "wt"
      repeat rw [if_neg (by decide +kernel)]
      exact ⟨by omega, fun p np => q.of ⟨same_new np, np, [], upd_same, .nil⟩⟩
    | tell i =>
      refine r_ixT (i := 0) ht rfl ?_
      walk_at "wt"
      repeat rw [if_neg (by decide +kernel)]
      exact ⟨by omega, fun p np => q.of ⟨same_new np, np, [], upd_same, .nil⟩⟩
theorem f_deeds_of (T : Tx K mg) : Fn P w K mg base 4 "deeds_of" ["names", "statement"] (sp_deeds_of K) := by
  have c_loaded := f_loaded (P := P) (w := w) (base := base) T
  have c_brought := f_brought (P := P) (w := w) (base := base) T
  have c_stored := f_stored (P := P) (w := w) (base := base) T
  refine T.mkFn 5 5 (d := d_deeds_of) (N := ["names", "statement", "deeds"]) (k := 3) rfl rfl rfl rfl rfl sc_deeds_of (fun _ _ _ _ _ _ us hl => match us, hl with | [_, _], _ => rfl) (fun vs H Q E h => ?len) (fun cdv A outer s H vs Q E hr h => ⟨_,
      (pss_cons (ps_set (i := 2) sc_deeds_of.nd rfl (Or.inl rfl) (pe_lst (pa_cons (pe_tup (pa_cons pe_str (pa_cons pe_int pa_nil))) (pa_cons (pe_tup (pa_cons pe_str (pa_cons pe_int pa_nil))) pa_nil))))
        (pss_cons (ps_if (pt_cmpR (op_eqK (K := K) rfl hr.units) (pe_ix (ix_seqK (K := K) rfl) (pv 1) pe_int (fun _ _ => rfl)) pe_str (nomark _)) (pss_one (ps_ret (pe_op op_gAdd (pe_op op_gAdd (pv 2) (pe_fn (takes_of rfl rfl rfl rfl) c_loaded (hr.mono (by decide)) (by rfl) (pa_cons (pv 0) (pa_cons (pe_ix (ix_seqK (K := K) rfl) (pv 1) pe_int (fun _ _ => rfl)) (pa_cons pe_int pa_nil))))) (pe_lst (pa_cons (pe_tup (pa_cons pe_str (pa_cons pe_int pa_nil))) pa_nil))))) pss_nil)
        (pss_cons (ps_if (pt_cmpR (op_eqK (K := K) rfl hr.units) (pe_ix (ix_seqK (K := K) rfl) (pv 1) pe_int (fun _ _ => rfl)) pe_str (nomark _)) (pss_cons (ps_set (i := 2) sc_deeds_of.nd rfl (Or.inl rfl) (pe_op op_gAdd (pe_op op_gAdd (pv 2) (pe_fn (takes_of rfl rfl rfl rfl) c_loaded (hr.mono (by decide)) (by rfl) (pa_cons (pv 0) (pa_cons (pe_ix (ix_seqK (K := K) rfl) (pv 1) pe_int (fun _ _ => rfl)) (pa_cons pe_int pa_nil))))) (pe_fn (takes_of rfl rfl rfl rfl) c_loaded (hr.mono (by decide)) (by rfl) (pa_cons (pv 0) (pa_cons (pe_ix (ix_seqK (K := K) rfl) (pv 1) pe_int (fun _ _ => rfl)) (pa_cons pe_int pa_nil))))))
        (pss_one (ps_ret (pe_op op_gAdd (pv 2) (pe_lst (pa_cons (pe_tup (pa_cons pe_str (pa_cons pe_int (pa_cons (pe_ix (ix_seqK (K := K) rfl) (pv 1) pe_int (fun _ _ => rfl)) (pa_cons pe_int pa_nil))))) pa_nil)))))) pss_nil)
        (pss_one (ps_ret (pe_op op_gAdd (pe_op op_gAdd (pv 2) (pe_fn (takes_of rfl rfl rfl rfl) c_brought (hr.mono (by decide)) (by rfl) (pa_cons (pv 0) (pa_cons (pv 1) pa_nil)))) (pe_fn (takes_of rfl rfl rfl rfl) c_stored (hr.mono (by decide)) (by rfl) (pa_cons (pv 0) (pa_cons (pe_ix (ix_seqK (K := K) rfl) (pv 1) pe_int (fun _ _ => rfl)) pa_nil))))))))), ?rd⟩)
  case len => obtain ⟨_, _, _, _, rfl, _⟩ := h; rfl
  case rd =>
    obtain ⟨a, t, N, st, rfl, ha0, hl, o, ht0, ok, q⟩ := h
    have sz : 10000000 ≤ sizeLine := by rw [sizeLine_eq]; omega
    walk_at "wt"
    refine ⟨by omega, fun p1 n1 => ⟨by omega, fun p2 n2 => ⟨by omega, fun l nl => ?_⟩⟩⟩
    have B : Bu H l [.drop 1, .drop 2] (upd (upd (upd H p1 (.tup [.str "drop", .int 1])) p2 (.tup [.str "drop", .int 2])) l (.lst [.ref p1, .ref p2])) := Bu.two (d := .drop 1) (e := .drop 2) n1 n2 nl
    have ha := B.s _ _ ha0
    have ht := B.s _ _ ht0
    have sd : ∀ p, (storedD p).length ≤ p + 2 := fun p => storedD_len
    have ld : ∀ p h, (loadedD p h).length ≤ p + 2 := fun p h => loadedD_len
    generalize upd (upd (upd H p1 (.tup [.str "drop", .int 1])) p2 (.tup [.str "drop", .int 2])) l (.lst [.ref p1, .ref p2]) = H1 at B ha ht ⊢
    cases st with
    | tell i =>
      refine r_ixT (i := 0) ht rfl ?_
      walk_at "wt"
      refine r_ixT (i := 1) ht rfl ?_
      refine ⟨a, i, 1, N, N.getD i [], rfl, ha, hl, o, nm_at ok, ?_⟩
      have := ld i 1
      have ok : i < N.length := ok
      refine B.plus (by show 2 + _ ≤ _; omega) fun p H2 B2 => ⟨by omega, ?_⟩
      have q : NewD H Q ([.drop 1, .drop 2] ++ loadedD i 1 ++ [.read 1]) := q
      intro p3 n3
      refine ⟨by omega, fun p4 n4 => ?_⟩
      exact B2.lit (d := .read 1) (by rw [List.length_append]; show 2 + _ + 1 ≤ _; omega) (fun p H2 B3 => q.of B3) p3 n3 p4 n4
    | set c s j =>
      refine r_ixT (i := 0) ht rfl ?_
      walk_at "wt"
      repeat rw [if_neg (by decide +kernel)]
      refine r_ixT (i := 0) ht rfl ?_
      walk_at "wt"
      refine r_ixT (i := 3) ht rfl ?_
      have ok1 : c < N.length := ok.1
      have ok2 : j < N.length := ok.2
      have b1 := ld j 1
      have b2 := ld c 2
      refine ⟨a, j, 1, N, N.getD j [], rfl, ha, hl, o, nm_at ok2, ?_⟩
      refine B.plus (by show 2 + _ ≤ _; omega) fun p H2 B2 => ?_
      refine r_ixT (i := 1) (B2.s _ _ ht0) rfl ?_
      refine ⟨a, c, 2, N, N.getD c [], rfl, B2.s _ _ ha0, hl, o, nm_at ok1, ?_⟩
      refine B2.plus (by rw [List.length_append]; show 2 + _ + _ ≤ _; omega) fun p H3 B3 => ?_
      refine r_ixT (i := 2) (B3.s _ _ ht0) rfl ?_
      refine ⟨by omega, fun p3 n3 => ⟨by omega, fun p4 n4 => ?_⟩⟩
      have q : NewD H Q ([.drop 1, .drop 2] ++ loadedD j 1 ++ loadedD c 2 ++ [.put 2 s 1]) := q
      exact B3.lit (d := .put 2 s 1) (by rw [List.length_append, List.length_append]; show 2 + _ + _ + 1 ≤ _; omega) (fun p H2 B3 => q.of B3) p3 n3 p4 n4
    | make i n =>
      refine r_ixT (i := 0) ht rfl ?_
      walk_at "wt"
      repeat rw [if_neg (by decide +kernel)]
      refine r_ixT (i := 0) ht rfl ?_
      walk_at "wt"
      repeat rw [if_neg (by decide +kernel)]
      have q : NewD H Q ([.drop 1, .drop 2] ++ broughtD (.make i n) ++ storedD i) := q
      have il : i < N.length := by first | exact ok | exact ok.1
      have bl : (broughtD (.make i n)).length ≤ 2000 := by
        show 1 ≤ _; omega
      have := sd i
      refine ⟨a, t, N, _, rfl, ha, hl, o, ht, ok, ?_⟩
      refine B.plus (by show 2 + _ ≤ _; omega) fun p H2 B2 => ?_
      refine r_ixT (i := 1) (B2.s _ _ ht0) rfl ?_
      refine ⟨a, i, N, N.getD i [], rfl, B2.s _ _ ha0, hl, o, nm_at il, ?_⟩
      exact B2.plus (by rw [List.length_append]; show 2 + _ + _ ≤ _; omega) fun p H3 B3 => q.of B3
    | keep i n =>
      refine r_ixT (i := 0) ht rfl ?_
      walk_at "wt"
      repeat rw [if_neg (by decide +kernel)]
      refine r_ixT (i := 0) ht rfl ?_
      walk_at "wt"
      repeat rw [if_neg (by decide +kernel)]
      have q : NewD H Q ([.drop 1, .drop 2] ++ broughtD (.keep i n) ++ storedD i) := q
      have il : i < N.length := ok
      have bl : (broughtD (.keep i n)).length ≤ 2000 := by
        show 1 ≤ _; omega
      have := sd i
      refine ⟨a, t, N, _, rfl, ha, hl, o, ht, ok, ?_⟩
      refine B.plus (by show 2 + _ ≤ _; omega) fun p H2 B2 => ?_
      refine r_ixT (i := 1) (B2.s _ _ ht0) rfl ?_
      refine ⟨a, i, N, N.getD i [], rfl, B2.s _ _ ha0, hl, o, nm_at il, ?_⟩
      exact B2.plus (by rw [List.length_append]; show 2 + _ + _ ≤ _; omega) fun p H3 B3 => q.of B3
    | copy i j =>
      refine r_ixT (i := 0) ht rfl ?_
      walk_at "wt"
      repeat rw [if_neg (by decide +kernel)]
      refine r_ixT (i := 0) ht rfl ?_
      walk_at "wt"
      repeat rw [if_neg (by decide +kernel)]
      have q : NewD H Q ([.drop 1, .drop 2] ++ broughtD (.copy i j) ++ storedD i) := q
      have il : i < N.length := by first | exact ok | exact ok.1
      have bl : (broughtD (.copy i j)).length ≤ 2000 := by
        have := ld j 1; have : j < N.length := ok.2; show (loadedD j 1).length ≤ _; omega
      have := sd i
      refine ⟨a, t, N, _, rfl, ha, hl, o, ht, ok, ?_⟩
      refine B.plus (by show 2 + _ ≤ _; omega) fun p H2 B2 => ?_
      refine r_ixT (i := 1) (B2.s _ _ ht0) rfl ?_
      refine ⟨a, i, N, N.getD i [], rfl, B2.s _ _ ha0, hl, o, nm_at il, ?_⟩
      exact B2.plus (by rw [List.length_append]; show 2 + _ + _ ≤ _; omega) fun p H3 B3 => q.of B3
    | drop i =>
      refine r_ixT (i := 0) ht rfl ?_
      walk_at "wt"
      repeat rw [if_neg (by decide +kernel)]
      refine r_ixT (i := 0) ht rfl ?_
      walk_at "wt"
      repeat rw [if_neg (by decide +kernel)]
      have q : NewD H Q ([.drop 1, .drop 2] ++ broughtD (.drop i) ++ storedD i) := q
      have il : i < N.length := ok
      have bl : (broughtD (.drop i)).length ≤ 2000 := by
        exact Nat.zero_le _
      have := sd i
      refine ⟨a, t, N, _, rfl, ha, hl, o, ht, ok, ?_⟩
      refine B.plus (by show 2 + _ ≤ _; omega) fun p H2 B2 => ?_
      refine r_ixT (i := 1) (B2.s _ _ ht0) rfl ?_
      refine ⟨a, i, N, N.getD i [], rfl, B2.s _ _ ha0, hl, o, nm_at il, ?_⟩
      exact B2.plus (by rw [List.length_append]; show 2 + _ + _ ≤ _; omega) fun p H3 B3 => q.of B3
    | get i c s =>
      refine r_ixT (i := 0) ht rfl ?_
      walk_at "wt"
      repeat rw [if_neg (by decide +kernel)]
      refine r_ixT (i := 0) ht rfl ?_
      walk_at "wt"
      repeat rw [if_neg (by decide +kernel)]
      have q : NewD H Q ([.drop 1, .drop 2] ++ broughtD (.get i c s) ++ storedD i) := q
      have il : i < N.length := by first | exact ok | exact ok.1
      have bl : (broughtD (.get i c s)).length ≤ 2000 := by
        have := ld c 1; have : c < N.length := ok.2; show (loadedD c 1 ++ [_]).length ≤ _; rw [List.length_append]; show _ + 1 ≤ _; omega
      have := sd i
      refine ⟨a, t, N, _, rfl, ha, hl, o, ht, ok, ?_⟩
      refine B.plus (by show 2 + _ ≤ _; omega) fun p H2 B2 => ?_
      refine r_ixT (i := 1) (B2.s _ _ ht0) rfl ?_
      refine ⟨a, i, N, N.getD i [], rfl, B2.s _ _ ha0, hl, o, nm_at il, ?_⟩
      exact B2.plus (by rw [List.length_append]; show 2 + _ + _ ≤ _; omega) fun p H3 B3 => q.of B3
end

/-! ## the law's own hands and cells -/
structure A29 where
  s : Addr
  hl : Addr
  cl : Addr
  fl : Addr
  rows : List Addr
def A29.own (a : A29) : List Addr := a.s :: a.hl :: a.cl :: a.fl :: a.rows
def RepT (H : Hp) (v : V) : Th → Prop
  | .no => v = .non
  | .num n => v = .int n
  | .cell k => ∃ t, v = .ref t ∧ H t = some (.tup [.str "cell", .int (k : Int)])
def Reps (H : Hp) (vs : List V) (ts : List Th) : Prop := vs.length = ts.length ∧ ∀ (i : Nat) (t : Th), ts[i]? = some t → ∃ v, vs[i]? = some v ∧ RepT H v t
/-- tuples stay -/
def Tk (H H' : Hp) : Prop := ∀ t xs, H t = some (.tup xs) → H' t = some (.tup xs)
theorem Same.tk {H H' : Hp} (s : Same H H') : Tk H H' := fun t xs e => s _ _ e
theorem RepT.tk {H H' : Hp} {v : V} {t : Th} (h : RepT H v t) (k : Tk H H') : RepT H' v t := by
  cases t with
  | cell n => exact let ⟨u, e, g⟩ := h; ⟨u, e, k _ _ g⟩
  | _ => exact h
theorem Reps.tk {H H' : Hp} {vs : List V} {ts : List Th} (h : Reps H vs ts) (k : Tk H H') : Reps H' vs ts := ⟨h.1, fun i t e => let ⟨v, g, r⟩ := h.2 i t e; ⟨v, g, r.tk k⟩⟩
theorem Reps.set {H : Hp} {vs : List V} {ts : List Th} {i : Nat} {v : V} {t : Th} (h : Reps H vs ts) (r : RepT H v t) : Reps H (vs.set i v) (ts.set i t) := by
  refine ⟨by rw [List.length_set, List.length_set]; exact h.1, fun j u e => ?_⟩
  rcases at_set e with ⟨rfl, rfl⟩ | ⟨ne, e⟩
  · have hl := (List.getElem?_eq_some_iff.mp ‹_›).1
    rw [List.length_set] at hl
    exact ⟨v, List.getElem?_set_self (by rw [h.1]; exact hl), r⟩
  · obtain ⟨w, g, q⟩ := h.2 j u e
    exact ⟨w, by rw [List.getElem?_set_ne (Ne.symm ne)]; exact g, q⟩
theorem Reps.none {H : Hp} {n : Nat} : Reps H (List.replicate n .non) (List.replicate n .no) := by
  refine ⟨by rw [List.length_replicate, List.length_replicate], fun i t e => ⟨.non, ?_, ?_⟩⟩
  · have hl := (List.getElem?_eq_some_iff.mp e).1
    rw [List.length_replicate] at hl
    rw [List.getElem?_replicate, if_pos hl]
  · rw [List.getElem?_replicate] at e
    split at e
    · cases e
      rfl
    · cases e
theorem nodup_at {α : Type} {l : List α} {i j : Nat} {x : α} (h : l.Nodup) (a : l[i]? = some x) (b : l[j]? = some x) : i = j := by
  obtain ⟨ha, ea⟩ := List.getElem?_eq_some_iff.mp a
  obtain ⟨hb, eb⟩ := List.getElem?_eq_some_iff.mp b
  have p := List.pairwise_iff_getElem.mp h
  rcases Nat.lt_trichotomy i j with c | c | c
  · exact absurd (ea.trans eb.symm) (p i j ha hb c)
  · exact c
  · exact absurd (eb.trans ea.symm) (p j i hb ha c)
def Th.d : Th → PyData
  | .no => .none
  | .num n => .int n
  | .cell k => .tuple [.str "cell", .int (k : Int)]
theorem RepT.dp {K : PySem.W.Frag} {H : Hp} {v : V} {t : Th} (h : RepT H v t) : Dp K H v t.d := by
  cases t with
  | no => cases h; exact .non
  | num n => cases h; exact .int n
  | cell k =>
    obtain ⟨u, rfl, g⟩ := h
    exact .tup (.inl (.inl g)) (.cons (.str _) (.cons (.int _) .nil))
theorem Th.sh {t : Th} : ShK 1 t.d := by
  cases t with
  | no => exact ⟨by simp [Th.d, PyData.canLay0], by simp [Th.d, PyData.depth]⟩
  | num n => exact ⟨by simp [Th.d, PyData.canLay0], by simp [Th.d, PyData.depth]⟩
  | cell k => 
    refine ShK.tup fun z m => ?_
    rcases List.mem_cons.mp m with rfl | m
    · exact ⟨by simp [PyData.canLay0]; decide +kernel, by simp [PyData.depth]⟩
    · rw [List.mem_singleton.mp m]
      exact ⟨by simp [PyData.canLay0], by simp [PyData.depth]⟩
theorem Reps.dps {K : PySem.W.Frag} {H : Hp} : ∀ {ts : List Th} {vs : List V}, Reps H vs ts → DpAll K H vs (ts.map Th.d)
  | [], [], _ => .nil
  | [], _ :: _, h => by cases h.1
  | _ :: _, [], h => by cases h.1
  | t :: ts, v :: vs, h => by
    obtain ⟨w, e, r⟩ := h.2 0 t rfl
    cases e
    exact .cons r.dp (Reps.dps ⟨Nat.succ.inj h.1, fun i u e => h.2 (i + 1) u e⟩)
theorem ths_sh {ts : List Th} : ∀ z ∈ ts.map Th.d, ShK 1 z := fun z m => by
  obtain ⟨t, -, rfl⟩ := List.mem_map.mp m
  exact Th.sh
theorem Reps.dp {K : PySem.W.Frag} {H : Hp} {a : Addr} {vs : List V} {ts : List Th} (g : H a = some (.lst vs)) (h : Reps H vs ts) : Dp K H (.ref a) (.list (ts.map Th.d)) := .lst (.of g) h.dps
theorem r_neTh {K : PySem.W.Frag} {H : Hp} {Q : VK} {v w : V} {t : Th} (h : RepT H v t) (h' : RepT H w t) (q : Q (.bl false) H) : gNe K v w H Q := by
  cases t with
  | no => cases h; cases h'; exact q
  | num n =>
    cases h
    cases h'
    show Q (.bl (!(n == n))) H
    rw [beq_self_eq_true]
    exact q
  | cell k =>
    obtain ⟨u, rfl, g⟩ := h
    obtain ⟨u', rfl, g'⟩ := h'
    exact r_neSame (RepT.dp (t := .cell k) ⟨u, rfl, g⟩) (RepT.dp (t := .cell k) ⟨u', rfl, g'⟩) ((Th.sh (t := .cell k)).ok (by decide)) q
theorem eqv_nilD {ds : List PyData} : PyData.eqv (.list ds) (.list []) = decide (ds = []) := by
  cases ds with
  | nil => rfl
  | cons n r => rfl
theorem r_eqE {K : PySem.W.Frag} {H : Hp} {Q : VK} {a b : Addr} {xs : List V} {ds : List PyData} (h1 : H a = some (.lst xs)) (p : DpAll K H xs ds) (sh : SeqAt.shaped (.list ds) = true) (h2 : H b = some (.lst [])) (q : Q (.bl (decide (ds = []))) H) : gEq K (.ref a) (.ref b) H Q :=
  ⟨_, .list [], .lst (.of h1) p, .lst (.of h2) .nil, sh, by decide, by rw [eqv_nilD]; exact q⟩
theorem r_neE {K : PySem.W.Frag} {H : Hp} {Q : VK} {a b : Addr} {xs : List V} {ds : List PyData} (h1 : H a = some (.lst xs)) (p : DpAll K H xs ds) (sh : SeqAt.shaped (.list ds) = true) (h2 : H b = some (.lst [])) (q : Q (.bl (!decide (ds = []))) H) : gNe K (.ref a) (.ref b) H Q :=
  ⟨_, .list [], .lst (.of h1) p, .lst (.of h2) .nil, sh, by decide, by rw [eqv_nilD]; exact q⟩
theorem nats_dp {K : PySem.W.Frag} {H : Hp} : ∀ {ks : List Nat}, DpAll K H (ks.map fun k : Nat => V.int k) (ks.map fun k : Nat => PyData.int k)
  | [] => .nil
  | k :: r => .cons (.int k) nats_dp
theorem nats_sh {ks : List Nat} : SeqAt.shaped (.list (ks.map fun k : Nat => PyData.int k)) = true := by
  refine (ShK.lst (k := 0) fun z m => ?_).ok (by decide)
  obtain ⟨k, -, rfl⟩ := List.mem_map.mp m
  exact ⟨by simp [PyData.canLay0], by simp [PyData.depth]⟩
def Th.isC : Th → Bool
  | .cell _ => true
  | _ => false
theorem RepT.ty {H : Hp} {v : V} {t : Th} (h : RepT H v t) : ∃ ty, tyOf v H = some ty ∧ isB ty "tuple" = t.isC := by
  cases t with
  | no => cases h; exact ⟨"NoneType", rfl, by show isB "NoneType" "tuple" = false; decide⟩
  | num n => cases h; exact ⟨"int", rfl, by show isB "int" "tuple" = false; decide⟩
  | cell k =>
    obtain ⟨u, rfl, g⟩ := h
    exact ⟨"tuple", by show tyO (H u) = _; rw [g]; rfl, by show isB "tuple" "tuple" = true; decide⟩
abbrev kdK (x y z : V) : List (Key × V) := [(.inr "hands", x), (.inr "cells", y), (.inr "frames", z)]
theorem kd_h {x y z : V} : valV (kdK x y z) (.inr "hands" : Key) = some x := valV_pos rfl
theorem kd_c {x y z : V} : valV (kdK x y z) (.inr "cells" : Key) = some y := (valV_neg (show ¬ (.inr "hands" : Key) = .inr "cells" by decide +kernel)).trans (valV_pos rfl)
theorem kd_f {x y z : V} : valV (kdK x y z) (.inr "frames" : Key) = some z := (valV_neg (show ¬ (.inr "hands" : Key) = .inr "frames" by decide +kernel)).trans ((valV_neg (show ¬ (.inr "cells" : Key) = .inr "frames" by decide +kernel)).trans (valV_pos rfl))
structure R29 (H : Hp) (a : A29) (fk : List (Key × V)) (S : S29) : Prop where
  nd : a.own.Nodup
  ks : H a.s = some (.dK (kdK (.ref a.hl) (.ref a.cl) (.ref a.fl)))
  hs : ∃ vs, H a.hl = some (.lst vs) ∧ Reps H vs S.hs
  cl : H a.cl = some (.lst (a.rows.map V.ref))
  fl : H a.fl = some (.dK fk)
  len : a.rows.length = S.cs.length
  cs : ∀ (i : Nat) (r : Addr) (ts : List Th), a.rows[i]? = some r → S.cs[i]? = some ts → ∃ vs, H r = some (.lst vs) ∧ Reps H vs ts
structure Stp (H : Hp) (a : A29) (H' : Hp) (a' : A29) : Prop where
  own : ∀ b ∈ a'.own, b ∈ a.own ∨ H b = none
  keep : ∀ b o, b ∉ a.own → H b = some o → H' b = some o
  s : a'.s = a.s
  f : a'.fl = a.fl
section
variable {H H' : Hp} {a a' : A29} {fk : List (Key × V)} {S : S29} {K : PySem.W.Frag} {Q : VK}
theorem Stp.refl : Stp H a H a := ⟨fun b m => .inl m, fun b o _ e => e, rfl, rfl⟩
theorem Stp.same (s : Same H H') : Stp H a H' a := ⟨fun b m => .inl m, fun b o _ e => s _ _ e, rfl, rfl⟩
theorem Stp.trans {H'' : Hp} {a'' : A29} (x : Stp H a H' a') (y : Stp H' a' H'' a'') : Stp H a H'' a'' := by
  have nin : ∀ b o, b ∉ a.own → H b = some o → b ∉ a'.own := fun b o n e m => by
    rcases x.own b m with h | h
    · exact n h
    · rw [h] at e
      cases e
  refine ⟨fun b m => ?_, fun b o n e => y.keep b o (nin b o n e) (x.keep b o n e), y.s.trans x.s, y.f.trans x.f⟩
  rcases y.own b m with h | h
  · exact x.own b h
  · by_cases c : b ∈ a.own
    · exact .inl c
    · cases e : H b with
      | none => exact .inr rfl
      | some o =>
        rw [x.keep b o c e] at h
        cases h
theorem R29.row (R : R29 H a fk S) {r : Addr} (m : r ∈ a.rows) : ∃ vs, H r = some (.lst vs) := by
  obtain ⟨i, e⟩ := List.getElem?_of_mem m
  have hl := (List.getElem?_eq_some_iff.mp e).1
  obtain ⟨vs, g, -⟩ := R.cs i r _ e (List.getElem?_eq_getElem (by rw [← R.len]; exact hl))
  exact ⟨vs, g⟩
theorem R29.live (R : R29 H a fk S) {b : Addr} (m : b ∈ a.own) : ∃ o, H b = some o ∧ ∀ xs, o ≠ .tup xs := by
  simp only [A29.own, List.mem_cons] at m
  rcases m with rfl | rfl | rfl | rfl | m
  · exact ⟨_, R.ks, fun _ z => by cases z⟩
  · obtain ⟨vs, g, -⟩ := R.hs
    exact ⟨_, g, fun _ z => by cases z⟩
  · exact ⟨_, R.cl, fun _ z => by cases z⟩
  · exact ⟨_, R.fl, fun _ z => by cases z⟩
  · obtain ⟨vs, g⟩ := R.row m
    exact ⟨_, g, fun _ z => by cases z⟩
theorem R29.notup (R : R29 H a fk S) {t : Addr} {xs : List V} (e : H t = some (.tup xs)) : t ∉ a.own := fun m => by
  obtain ⟨o, g, n⟩ := R.live m
  rw [e] at g
  exact n xs (Option.some.inj g).symm
theorem R29.new (R : R29 H a fk S) {t : Addr} (e : H t = none) : t ∉ a.own := fun m => by
  obtain ⟨o, g, n⟩ := R.live m
  rw [e] at g
  cases g
theorem R29.tk (R : R29 H a fk S) (x : Stp H a H' a') : Tk H H' := fun t xs e => x.keep _ _ (R.notup e) e
theorem R29.same (R : R29 H a fk S) (s : Same H H') : R29 H' a fk S :=
  ⟨R.nd, s _ _ R.ks, let ⟨vs, g, r⟩ := R.hs; ⟨vs, s _ _ g, r.tk (Same.tk s)⟩, s _ _ R.cl, s _ _ R.fl, R.len, fun i r ts e1 e2 => let ⟨vs, g, q⟩ := R.cs i r ts e1 e2; ⟨vs, s _ _ g, q.tk (Same.tk s)⟩⟩
theorem R29.ne (R : R29 H a fk S) : (a.s ≠ a.hl ∧ a.s ≠ a.cl ∧ a.s ≠ a.fl ∧ a.s ∉ a.rows) ∧ (a.hl ≠ a.cl ∧ a.hl ≠ a.fl ∧ a.hl ∉ a.rows) ∧ (a.cl ≠ a.fl ∧ a.cl ∉ a.rows) ∧ a.fl ∉ a.rows ∧ a.rows.Nodup := by
  have h := R.nd
  simp only [A29.own, List.nodup_cons, List.mem_cons, not_or] at h
  exact h
theorem R29.getH (R : R29 H a fk S) : DGet H a.s (.str "hands") (some (.ref a.hl)) := by
  have := DGet.k (k := (.inr "hands" : Key)) R.ks
  rw [kd_h] at this
  exact this
theorem R29.getC (R : R29 H a fk S) : DGet H a.s (.str "cells") (some (.ref a.cl)) := by
  have := DGet.k (k := (.inr "cells" : Key)) R.ks
  rw [kd_c] at this
  exact this
theorem R29.getF (R : R29 H a fk S) : DGet H a.s (.str "frames") (some (.ref a.fl)) := by
  have := DGet.k (k := (.inr "frames" : Key)) R.ks
  rw [kd_f] at this
  exact this
theorem R29.hand (R : R29 H a fk S) {i : Nat} {t : Th} (e : S.hs[i]? = some t) : ∃ vs v, H a.hl = some (.lst vs) ∧ vs[i]? = some v ∧ RepT H v t := let ⟨vs, g, r⟩ := R.hs; let ⟨v, e1, r1⟩ := r.2 i t e; ⟨vs, v, g, e1, r1⟩
theorem R29.rowAt (R : R29 H a fk S) {k : Nat} {row : List Th} (e : S.cs[k]? = some row) : ∃ r, a.rows[k]? = some r := ⟨_, List.getElem?_eq_getElem (by rw [R.len]; exact (List.getElem?_eq_some_iff.mp e).1)⟩
/-- one of its things is written anew -/
theorem Stp.put {x : Addr} {o : HO} (m : x ∈ a.own) : Stp H a (upd H x o) a := ⟨fun b m => .inl m, fun b u n e => (upd_ne fun z => n (by rw [z]; exact m)).trans e, rfl, rfl⟩
theorem R29.setH (R : R29 H a fk S) {vs : List V} {i : Nat} {v : V} {t : Th} (g : H a.hl = some (.lst vs)) (r : RepT H v t) : R29 (upd H a.hl (.lst (vs.set i v))) a fk ⟨S.hs.set i t, S.cs⟩ := by
  obtain ⟨⟨n1, n2, n3, n4⟩, ⟨n5, n6, n7⟩, ⟨n8, n9⟩, n10, n11⟩ := R.ne
  have k : Tk H (upd H a.hl (.lst (vs.set i v))) := R.tk (Stp.put (by simp [A29.own]))
  obtain ⟨vs', g', q⟩ := R.hs
  rw [g] at g'
  cases g'
  exact ⟨R.nd, (upd_ne n1).trans R.ks, ⟨_, upd_same, (q.tk k).set (r.tk k)⟩, (upd_ne n5.symm).trans R.cl, (upd_ne n6.symm).trans R.fl, R.len, fun i r ts e1 e2 => let ⟨vs, g, q⟩ := R.cs i r ts e1 e2; ⟨vs, (upd_ne fun z => n7 (by rw [← z]; exact List.mem_of_getElem? e1)).trans g, q.tk k⟩⟩
theorem R29.setC (R : R29 H a fk S) {r : Addr} {ts : List Th} {vs : List V} {k i : Nat} {v : V} {t : Th} (e : a.rows[k]? = some r) (e2 : S.cs[k]? = some ts) (g : H r = some (.lst vs)) (q : Reps H vs ts) (rt : RepT H v t) : R29 (upd H r (.lst (vs.set i v))) a fk ⟨S.hs, S.cs.set k (ts.set i t)⟩ := by
  obtain ⟨⟨n1, n2, n3, n4⟩, ⟨n5, n6, n7⟩, ⟨n8, n9⟩, n10, n11⟩ := R.ne
  have m := List.mem_of_getElem? e
  have kk : Tk H (upd H r (.lst (vs.set i v))) := R.tk (Stp.put (by simp only [A29.own, List.mem_cons]; exact .inr (.inr (.inr (.inr m)))))
  have nr : ∀ {x}, x ∉ a.rows → x ≠ r := fun n z => n (by rw [z]; exact m)
  refine ⟨R.nd, (upd_ne (nr n4)).trans R.ks, let ⟨vs, g, r⟩ := R.hs; ⟨vs, (upd_ne (nr n7)).trans g, r.tk kk⟩, (upd_ne (nr n9)).trans R.cl, (upd_ne (nr n10)).trans R.fl, by show _ = (S.cs.set _ _).length; rw [List.length_set]; exact R.len, fun j r2 ts2 a1 a2 => ?_⟩
  rcases at_set a2 with ⟨rfl, rfl⟩ | ⟨ne, a2⟩
  · rw [e] at a1
    cases a1
    exact ⟨_, upd_same, (q.tk kk).set (rt.tk kk)⟩
  · obtain ⟨ws, g2, q2⟩ := R.cs j r2 ts2 a1 a2
    refine ⟨ws, (upd_ne fun z => ne ?_).trans g2, q2.tk kk⟩
    subst z
    exact nodup_at n11 a1 e
theorem R29.grow (R : R29 H a fk S) {r : Addr} {n : Nat} (nr : H r = none) : R29 (upd (upd H r (.lst (List.replicate n .non))) a.cl (.lst (a.rows.map V.ref ++ [.ref r]))) { a with rows := a.rows ++ [r] } fk ⟨S.hs, S.cs ++ [List.replicate n .no]⟩ ∧
    Stp H a (upd (upd H r (.lst (List.replicate n .non))) a.cl (.lst (a.rows.map V.ref ++ [.ref r]))) { a with rows := a.rows ++ [r] } := by
  have s1 := same_new (o := .lst (List.replicate n .non)) nr
  have R1 := R.same s1
  obtain ⟨⟨n1, n2, n3, n4⟩, ⟨n5, n6, n7⟩, ⟨n8, n9⟩, n10, n11⟩ := R.ne
  have nin := R.new nr
  have nin2 := nin
  simp only [A29.own, List.mem_cons, not_or] at nin2
  obtain ⟨m1, m2, m3, m4, m5⟩ := nin2
  have kk : Tk (upd H r (.lst (List.replicate n .non))) (upd (upd H r (.lst (List.replicate n .non))) a.cl (.lst (a.rows.map V.ref ++ [.ref r]))) := R1.tk (Stp.put (by simp [A29.own]))
  refine ⟨⟨?_, (upd_ne n2).trans R1.ks, let ⟨vs, g, r⟩ := R1.hs; ⟨vs, (upd_ne n5).trans g, r.tk kk⟩, by rw [List.map_append]; exact upd_same, (upd_ne n8.symm).trans R1.fl, by rw [List.length_append, List.length_append, R.len]; rfl, fun i r2 ts a1 a2 => ?_⟩, ⟨fun b m => ?_, fun b o nb e => (upd_ne fun z => nb (by rw [z]; simp [A29.own])).trans (s1 _ _ e), rfl, rfl⟩⟩
  · have h := R.nd
    simp only [A29.own, List.nodup_cons, List.mem_cons, not_or, List.mem_append, List.mem_singleton, List.not_mem_nil] at h ⊢
    refine ⟨⟨n1, n2, n3, n4, Ne.symm m1, id⟩, ⟨n5, n6, n7, Ne.symm m2, id⟩, ⟨n8, n9, Ne.symm m3, id⟩, ⟨n10, Ne.symm m4, id⟩, ?_⟩
    rw [List.nodup_append]
    exact ⟨n11, by simp, fun x hx y hy z => m5 (by rw [← List.mem_singleton.mp hy, ← z]; exact hx)⟩
  · by_cases c : i < a.rows.length
    · rw [List.getElem?_append_left c] at a1
      rw [List.getElem?_append_left (by rw [← R.len]; exact c)] at a2
      obtain ⟨vs, g, q⟩ := R1.cs i r2 ts a1 a2
      exact ⟨vs, (upd_ne fun z => n9 (by rw [← z]; exact List.mem_of_getElem? a1)).trans g, q.tk kk⟩
    · have hi := (List.getElem?_eq_some_iff.mp a1).1
      rw [List.length_append] at hi
      have ei : i = a.rows.length := by
        have : ([r] : List Addr).length = 1 := rfl
        omega
      subst ei
      rw [List.getElem?_concat_length] at a1
      rw [R.len, List.getElem?_concat_length] at a2
      cases a1
      cases a2
      exact ⟨_, (upd_ne m3).trans upd_same, Reps.none⟩
  · simp only [A29.own, List.mem_cons, List.mem_append, List.mem_singleton, List.not_mem_nil, or_false] at m ⊢
    rcases m with m | m | m | m | m | m
    · exact .inl (.inl m)
    · exact .inl (.inr (.inl m))
    · exact .inl (.inr (.inr (.inl m)))
    · exact .inl (.inr (.inr (.inr (.inl m))))
    · exact .inl (.inr (.inr (.inr (.inr m))))
    · rw [m]
      exact .inr nr
/-- hands of another row -/
theorem R29.newH (R : R29 H a fk S) {l : Addr} {vs : List V} {ts : List Th} (nl : l ∉ a.own) (g : H l = some (.lst vs)) (q : Reps H vs ts) : R29 (upd H a.s (.dK (kdK (.ref l) (.ref a.cl) (.ref a.fl)))) { a with hl := l } fk ⟨ts, S.cs⟩ := by
  obtain ⟨⟨n1, n2, n3, n4⟩, ⟨n5, n6, n7⟩, ⟨n8, n9⟩, n10, n11⟩ := R.ne
  have kk : Tk H (upd H a.s (.dK (kdK (.ref l) (.ref a.cl) (.ref a.fl)))) := R.tk (Stp.put (by simp [A29.own]))
  simp only [A29.own, List.mem_cons, not_or] at nl
  obtain ⟨m1, m2, m3, m4, m5⟩ := nl
  refine ⟨?_, upd_same, ⟨vs, (upd_ne m1).trans g, q.tk kk⟩, (upd_ne n2.symm).trans R.cl, (upd_ne n3.symm).trans R.fl, R.len, fun i r ts e1 e2 => let ⟨vs, g, q⟩ := R.cs i r ts e1 e2; ⟨vs, (upd_ne fun z => n4 (by rw [← z]; exact List.mem_of_getElem? e1)).trans g, q.tk kk⟩⟩
  simp only [A29.own, List.nodup_cons, List.mem_cons, not_or]
  exact ⟨⟨Ne.symm m1, n2, n3, n4⟩, ⟨m3, m4, m5⟩, ⟨n8, n9⟩, n10, n11⟩
theorem rep_none {n : Nat} : (List.replicate ((n : Int).toNat) [V.non]).flatten = List.replicate n V.non := by
  rw [Int.toNat_natCast]
  induction n with
  | zero => rfl
  | succ n ih =>
    rw [List.replicate_succ, List.replicate_succ, List.flatten_cons, ih]
    rfl
theorem ixN_nat {n i : Nat} (h : i < n) : ixN n (i : Int) = some i := by
  unfold ixN
  rw [if_pos (by omega), if_pos (by omega), Int.toNat_natCast]
theorem R29.putH {N : Hp → Prop} {h : Nat} {v : V} {t : Th} (R : R29 H a fk S) (h3 : S.hs.length = 3) (hh : h < 3) (rv : RepT H v t) (k : ∀ H', R29 H' a fk ⟨S.hs.set h t, S.cs⟩ → Stp H a H' a → N H') : rSetL (.ref a.hl) (.int (h : Int)) v H N := by
  obtain ⟨vs, g, r⟩ := R.hs
  exact ⟨a.hl, vs, _, h, rfl, rfl, g, ixN_nat (by rw [r.1, h3]; exact hh), k _ (R.setH g rv) (Stp.put (by simp [A29.own]))⟩
theorem put_kd {l x y z : V} : putK (kdK x y z) (.inr "hands" : Key) l = kdK l y z := by
  have h1 : ¬ (.inr "cells" : Key) = .inr "hands" := by decide +kernel
  have h2 : ¬ (.inr "frames" : Key) = .inr "hands" := by decide +kernel
  unfold putK kdK
  simp only [List.any_cons, decide_true, Bool.true_or, if_true, List.map_cons, List.map_nil, if_neg h1, if_neg h2]
theorem Stp.off (st : Stp H a H' a') {b : Addr} {o : HO} (n : b ∉ a.own) (e : H b = some o) : b ∉ a'.own := fun m => by
  rcases st.own b m with h | h
  · exact n h
  · rw [h] at e
    cases e
/-- rows of their own -/
structure Cp (H : Hp) (c : Addr) (cr : List Addr) (cs : List (List Th)) : Prop where
  nd : (c :: cr).Nodup
  g : H c = some (.lst (cr.map V.ref))
  len : cr.length = cs.length
  rows : ∀ (i : Nat) (r : Addr) (ts : List Th), cr[i]? = some r → cs[i]? = some ts → ∃ vs, H r = some (.lst vs) ∧ Reps H vs ts
theorem R29.cp (R : R29 H a fk S) : Cp H a.cl a.rows S.cs := by
  obtain ⟨-, -, ⟨n8, n9⟩, n10, n11⟩ := R.ne
  exact ⟨List.nodup_cons.mpr ⟨n9, n11⟩, R.cl, R.len, R.cs⟩
variable {c : Addr} {cr : List Addr} {cs : List (List Th)}
theorem Cp.live (C : Cp H c cr cs) {r : Addr} (m : r ∈ cr) : ∃ vs, H r = some (.lst vs) := by
  obtain ⟨i, e⟩ := List.getElem?_of_mem m
  have hl := (List.getElem?_eq_some_iff.mp e).1
  obtain ⟨vs, g, -⟩ := C.rows i r _ e (List.getElem?_eq_getElem (by rw [← C.len]; exact hl))
  exact ⟨vs, g⟩
theorem Cp.keep (C : Cp H c cr cs) (tk : Tk H H') (k : ∀ b o, b ∈ c :: cr → H b = some o → H' b = some o) : Cp H' c cr cs :=
  ⟨C.nd, k _ _ List.mem_cons_self C.g, C.len, fun i r ts e1 e2 => let ⟨vs, g, q⟩ := C.rows i r ts e1 e2; ⟨vs, k _ _ (List.mem_cons_of_mem _ (List.mem_of_getElem? e1)) g, q.tk tk⟩⟩
theorem Cp.same (C : Cp H c cr cs) (s : Same H H') : Cp H' c cr cs := C.keep (Same.tk s) fun b o _ e => s _ _ e
theorem Cp.stp (C : Cp H c cr cs) (R : R29 H a fk S) (st : Stp H a H' a') (n : ∀ b ∈ c :: cr, b ∉ a.own) : Cp H' c cr cs := C.keep (R.tk st) fun b o m e => st.keep _ _ (n b m) e
theorem cp_dps {K : PySem.W.Frag} {H : Hp} : ∀ {cr : List Addr} {cs : List (List Th)}, cr.length = cs.length → (∀ (i : Nat) (r : Addr) (ts : List Th), cr[i]? = some r → cs[i]? = some ts → ∃ vs, H r = some (.lst vs) ∧ Reps H vs ts) → DpAll K H (cr.map V.ref) (cs.map fun ts => .list (ts.map Th.d))
  | [], [], _, _ => .nil
  | [], _ :: _, h, _ => by cases h
  | _ :: _, [], h, _ => by cases h
  | r :: cr, ts :: cs, h, k => by
    obtain ⟨vs, g, q⟩ := k 0 r ts rfl rfl
    exact .cons (q.dp g) (cp_dps (Nat.succ.inj h) fun i r ts e1 e2 => k (i + 1) r ts e1 e2)
theorem Cp.dp {K : PySem.W.Frag} (C : Cp H c cr cs) : Dp K H (.ref c) (.list (cs.map fun ts => .list (ts.map Th.d))) := .lst (.of C.g) (cp_dps C.len C.rows)
theorem cs_sh {cs : List (List Th)} : SeqAt.shaped (.list (cs.map fun ts => .list (ts.map Th.d))) = true := by
  refine (ShK.lst (k := 2) fun z m => ?_).ok (by decide)
  obtain ⟨ts, -, rfl⟩ := List.mem_map.mp m
  exact ShK.lst ths_sh
/-- [list(row) for row in cells] -/
theorem lc_copy {k : Nat} {σ : L2.St} (hw : ∀ v, wipe ((wipe σ [k]).set k (some v)) [k] = wipe σ [k]) (hv : ∀ (v : V) (H : Hp) (Q : VK), Q v H → tVar k ((wipe σ [k]).set k (some v)) H Q) (R : R29 H a fk S) (cl : S.cs.length ≤ 1000)
    (q : ∀ D cr H', Same H H' → H D = none → Cp H' D cr S.cs → (∀ r ∈ cr, H r = none) → Q (.ref D) H') : LcW (Itl K a.cl) (gName k) tYes (tCB (rListG K) (tCons (tVar k) tNil)) [k] σ H Q := by
  have sz : 10000000 ≤ sizeLine := by rw [sizeLine_eq]; omega
  intro D nD
  have rl := R.len
  refine lc_list (xs := a.rows.map V.ref) (fun i Hx => ∃ cr, Cp Hx D cr (S.cs.take i) ∧ Same H Hx ∧ ∀ r ∈ cr, H r = none) ⟨[], ⟨by simp, upd_same, by rfl, fun i r ts e => by cases e⟩, same_new nD, fun r m => (List.not_mem_nil m).elim⟩ (fun i Hx _ e => ?_) ?_ ?_
  · obtain ⟨cr, -, s, -⟩ := e
    exact .of (s _ _ R.cl)
  · rintro i x Hx hx ⟨cr, C, s, nc⟩
    have hi := (List.getElem?_eq_some_iff.mp hx).1
    rw [List.length_map] at hi
    have ei : a.rows[i]? = some a.rows[i] := List.getElem?_eq_getElem hi
    rw [List.getElem?_map, ei] at hx
    cases hx
    have e2 : S.cs[i]? = some (S.cs[i]'(by rw [← R.len]; exact hi)) := List.getElem?_eq_getElem _
    obtain ⟨vs, g, r⟩ := R.cs i _ _ ei e2
    refine ⟨hw _, tYes_on (hv _ _ _ ?_)⟩
    refine ⟨a.rows[i], vs, rfl, .inl (.of (s _ _ g)), fun l nl => ?_⟩
    have s1 := same_new (o := .lst vs) nl
    have C1 := C.same s1
    have lD : l ≠ D := ne_of_none C.g nl |>.symm
    have lc : l ∉ cr := fun m => by
      obtain ⟨ws, e⟩ := C.live m
      rw [nl] at e
      cases e
    have Dc : D ∉ cr := (List.nodup_cons.mp C.nd).1
    have cn : cr.Nodup := (List.nodup_cons.mp C.nd).2
    have tk : Tk (upd Hx l (.lst vs)) (upd (upd Hx l (.lst vs)) D (.lst (cr.map V.ref ++ [.ref l]))) := fun t xs e => (upd_ne fun z => by rw [z, C1.g] at e; cases e).trans e
    have cl2 : cr.length = i := by
      have := C.len
      rw [List.length_take, ← R.len] at this
      omega
    refine ⟨_, C1.g, by rw [List.length_map]; omega, cr ++ [l], ⟨?_, by rw [List.map_append]; exact upd_same, ?_, fun j r2 ts a1 a2 => ?_⟩, fun b o e => (upd_ne (ne_of_none e nD)).trans (s1 _ _ (s _ _ e)), fun r m => ?_⟩
    · rw [List.nodup_cons, List.nodup_append]
      refine ⟨fun m => ?_, cn, by simp, fun x hx y hy z => lc (by rw [← List.mem_singleton.mp hy, ← z]; exact hx)⟩
      rcases List.mem_append.mp m with m | m
      · exact Dc m
      · exact lD (List.mem_singleton.mp m).symm
    · rw [List.length_append, List.length_take, cl2]
      have := R.len
      show i + 1 = _
      omega
    · by_cases c : j < cr.length
      · rw [List.getElem?_append_left c] at a1
        rw [List.getElem?_take, if_pos (by omega)] at a2
        obtain ⟨ws, g2, q2⟩ := C1.rows j r2 ts a1 (by rw [List.getElem?_take, if_pos (by omega)]; exact a2)
        exact ⟨ws, (upd_ne fun z => Dc (by rw [← z]; exact List.mem_of_getElem? a1)).trans g2, q2.tk tk⟩
      · have hj := (List.getElem?_eq_some_iff.mp a1).1
        rw [List.length_append] at hj
        have ej : j = cr.length := by
          have : ([l] : List Addr).length = 1 := rfl
          omega
        subst ej
        rw [List.getElem?_concat_length] at a1
        cases a1
        rw [List.getElem?_take, if_pos (by omega), cl2, e2] at a2
        cases a2
        exact ⟨vs, (upd_ne lD).trans upd_same, ((r.tk (Same.tk s)).tk (Same.tk s1)).tk tk⟩
    · rcases List.mem_append.mp m with m | m
      · exact nc r m
      · rw [List.mem_singleton.mp m]
        exact none_of s nl
  · rintro Hx ⟨cr, C, s, nc⟩
    rw [List.length_map, R.len, List.take_length] at C
    exact q D cr Hx s nD C nc
theorem R29.putHands (R : R29 H a fk S) {l : Addr} : DPut H a.s (.str "hands") (.ref l) (upd H a.s (.dK (kdK (.ref l) (.ref a.cl) (.ref a.fl)))) := by
  have h := DPut.k (k := (.inr "hands" : Key)) (v := .ref l) R.ks (by rw [sizeLine_eq]; show 3 < _; decide)
  rw [put_kd] at h
  exact h
theorem stp_newH (R : R29 H a fk S) {l : Addr} {vs : List V} {x : HO} (nl : H l = none) : Stp H a (upd (upd H l (.lst vs)) a.s x) { a with hl := l } := by
  refine ⟨fun b m => ?_, fun b o nb e => (upd_ne fun z => nb (by rw [z]; simp [A29.own])).trans ((same_new nl) _ _ e), rfl, rfl⟩
  simp only [A29.own, List.mem_cons] at m ⊢
  rcases m with m | m | m | m | m
  · exact .inl (.inl m)
  · rw [m]
    exact .inr nl
  · exact .inl (.inr (.inr (.inl m)))
  · exact .inl (.inr (.inr (.inr (.inl m))))
  · exact .inl (.inr (.inr (.inr (.inr m))))
theorem R29.keep (R : R29 H a fk S) (k : ∀ b o, b ∈ a.own → H b = some o → H' b = some o) (tk : Tk H H') : R29 H' a fk S := by
  have m : ∀ {b}, b ∈ a.rows → b ∈ a.own := fun h => by simp only [A29.own, List.mem_cons]; exact .inr (.inr (.inr (.inr h)))
  exact ⟨R.nd, k _ _ (by simp [A29.own]) R.ks, let ⟨vs, g, r⟩ := R.hs; ⟨vs, k _ _ (by simp [A29.own]) g, r.tk tk⟩, k _ _ (by simp [A29.own]) R.cl, k _ _ (by simp [A29.own]) R.fl, R.len, fun i r ts e1 e2 => let ⟨vs, g, q⟩ := R.cs i r ts e1 e2; ⟨vs, k _ _ (m (List.mem_of_getElem? e1)) g, q.tk tk⟩⟩
/-- the law's own rows, as they go on behind the deeds -/
def CpM (H4 : Hp) (D : Addr) (cr : List Addr) (rows : List (List Th)) (H' : Hp) : Prop := ∃ cr', Cp H' D cr' rows ∧ (∀ b ∈ cr', b ∈ cr ∨ H4 b = none) ∧ (∀ b o, b ∉ D :: cr → H4 b = some o → H' b = some o) ∧ Tk H4 H'
variable {H4 : Hp} {D : Addr} {rows : List (List Th)}
theorem CpM.init (C : Cp H4 D cr rows) : CpM H4 D cr rows H4 := ⟨cr, C, fun b m => .inl m, fun b o _ e => e, fun t xs e => e⟩
theorem CpM.same {H'' : Hp} (C : CpM H4 D cr rows H') (s : Same H' H'') : CpM H4 D cr rows H'' := let ⟨cr', c, o, k, tk⟩ := C; ⟨cr', c.same s, o, fun b o n e => s _ _ (k b o n e), fun t xs e => s _ _ (tk t xs e)⟩
theorem CpM.get (C : CpM H4 D cr rows H') {b : Addr} {o : HO} (n : b ∉ D :: cr) (e : H4 b = some o) : H' b = some o := let ⟨_, _, _, k, _⟩ := C; k b o n e
theorem CpM.tk (C : CpM H4 D cr rows H') : Tk H4 H' := let ⟨_, _, _, _, t⟩ := C; t
theorem CpM.R (C : CpM H4 D cr rows H') (R : R29 H4 a fk S) (n : ∀ b ∈ D :: cr, b ∉ a.own) : R29 H' a fk S := R.keep (fun b o m e => C.get (fun z => n b z m) e) C.tk
theorem CpM.app (C : CpM H4 D cr rows H') {n : Nat} {p r : Addr} {cr' : List Addr} (np : H' p = none) (nr : upd H' p (.lst [.non]) r = none) (c : Cp H' D cr' rows) (o : ∀ b ∈ cr', b ∈ cr ∨ H4 b = none) : CpM H4 D cr (rows ++ [List.replicate n .no]) (upd (upd (upd H' p (.lst [.non])) r (.lst (List.replicate n .non))) D (.lst (cr'.map V.ref ++ [.ref r]))) := by
  obtain ⟨cr0, c0, o0, k0, t0⟩ := C
  have s1 := same_new (o := .lst [.non]) np
  have s2 := same_new (o := .lst (List.replicate n .non)) nr
  have s := s1.trans s2
  have c2 := c.same s
  have nr' := none_of s1 nr
  have rD : r ≠ D := ne_of_none c.g nr' |>.symm
  have rc : r ∉ cr' := fun m => by
    obtain ⟨ws, e⟩ := c.live m
    rw [nr'] at e
    cases e
  have Dc := (List.nodup_cons.mp c.nd).1
  have cn := (List.nodup_cons.mp c.nd).2
  generalize hH : upd (upd H' p (.lst [.non])) r (.lst (List.replicate n .non)) = H2 at s c2 ⊢
  have gr : H2 r = some (.lst (List.replicate n .non)) := by rw [← hH]; exact upd_same
  have tk : Tk H2 (upd H2 D (.lst (cr'.map V.ref ++ [.ref r]))) := fun t xs e => (upd_ne fun z => by rw [z, c2.g] at e; cases e).trans e
  have r4 : r ∈ cr ∨ H4 r = none := by
    cases e : H4 r with
    | none => exact .inr rfl
    | some u =>
      by_cases m : r ∈ D :: cr
      · rcases List.mem_cons.mp m with h | h
        · exact absurd h rD
        · exact .inl h
      · rw [k0 r u m e] at nr'
        cases nr'
  refine ⟨cr' ++ [r], ⟨?_, by rw [List.map_append]; exact upd_same, by rw [List.length_append, List.length_append, c.len]; rfl, fun j r2 ts a1 a2 => ?_⟩, fun b m => ?_, fun b u nb e => (upd_ne fun z => nb (by rw [z]; exact List.mem_cons_self)).trans (s _ _ (k0 b u nb e)), fun t xs e => tk _ _ (s _ _ (t0 t xs e))⟩
  · rw [List.nodup_cons, List.nodup_append]
    refine ⟨fun m => ?_, cn, by simp, fun x hx y hy z => rc (by rw [← List.mem_singleton.mp hy, ← z]; exact hx)⟩
    rcases List.mem_append.mp m with m | m
    · exact Dc m
    · exact rD (List.mem_singleton.mp m).symm
  · by_cases q : j < cr'.length
    · rw [List.getElem?_append_left q] at a1
      rw [List.getElem?_append_left (by rw [← c.len]; exact q)] at a2
      obtain ⟨ws, g2, q2⟩ := c2.rows j r2 ts a1 a2
      exact ⟨ws, (upd_ne fun z => Dc (by rw [← z]; exact List.mem_of_getElem? a1)).trans g2, q2.tk tk⟩
    · have hj := (List.getElem?_eq_some_iff.mp a1).1
      rw [List.length_append] at hj
      have ej : j = cr'.length := by
        have : ([r] : List Addr).length = 1 := rfl
        omega
      subst ej
      rw [List.getElem?_concat_length] at a1
      rw [c.len, List.getElem?_concat_length] at a2
      cases a1
      cases a2
      exact ⟨_, (upd_ne rD).trans gr, Reps.none⟩
  · rcases List.mem_append.mp m with m | m
    · exact o b m
    · rw [List.mem_singleton.mp m]
      exact r4
theorem CpM.set (C : CpM H4 D cr rows H') {k i : Nat} {r : Addr} {cr' : List Addr} {ts : List Th} {vs : List V} {v : V} {t : Th} (c : Cp H' D cr' rows) (o : ∀ b ∈ cr', b ∈ cr ∨ H4 b = none) (e : cr'[k]? = some r) (e2 : rows[k]? = some ts) (g : H' r = some (.lst vs)) (q : Reps H' vs ts) (rt : RepT H' v t) : CpM H4 D cr (rows.set k (ts.set i t)) (upd H' r (.lst (vs.set i v))) := by
  obtain ⟨cr0, c0, o0, k0, t0⟩ := C
  have m := List.mem_of_getElem? e
  have Dc := (List.nodup_cons.mp c.nd).1
  have cn := (List.nodup_cons.mp c.nd).2
  have tk : Tk H' (upd H' r (.lst (vs.set i v))) := fun t xs e => (upd_ne fun z => by rw [z, g] at e; cases e).trans e
  refine ⟨cr', ⟨c.nd, (upd_ne fun z => Dc (by rw [z]; exact m)).trans c.g, by rw [List.length_set]; exact c.len, fun j r2 ts2 a1 a2 => ?_⟩, o, fun b u nb e3 => (upd_ne fun z => ?_).trans (k0 b u nb e3), fun t xs e => tk _ _ (t0 t xs e)⟩
  · rcases at_set a2 with ⟨rfl, rfl⟩ | ⟨ne, a2⟩
    · rw [e] at a1
      cases a1
      exact ⟨_, upd_same, (q.tk tk).set (rt.tk tk)⟩
    · obtain ⟨ws, g2, q2⟩ := c.rows j r2 ts2 a1 a2
      refine ⟨ws, (upd_ne fun z => ne ?_).trans g2, q2.tk tk⟩
      subst z
      exact nodup_at cn a1 e
  · subst z
    rcases o b m with h | h
    · exact nb (List.mem_cons_of_mem _ h)
    · rw [h] at e3
      cases e3
end

local macro_rules | `(tactic| walk_at "wt") => `(tactic| try simp only [↓x_var0, ↓x_varS, ↓x_c, ↓x_op, ↓x_un, ↓x_cb, ↓x_nil, ↓x_cons, ↓x_test, ↓x_b, ↓x_ex, ↓x_and, ↓x_or, ↓x_not, ↓x_andV, ↓x_orV, ↓x_notV, ↓x_tif, ↓x_chain, ↓x_menu, ↓x_menuI, ↓x_lst, ↓x_tup, ↓x_dnew, ↓x_callW, ↓x_callN, ↓x_seq, ↓x_next, ↓x_ret, ↓x_retN, ↓x_drop, ↓x_ifS, ↓x_asg, ↓x_name, ↓x_raise, ↓x_fld, ↓x_setF, ↓x_meth, ↓x_make, ↓x_sub, ↓r_min, ↓r_max, ↓x_yes, ↓x_for, ↓x_lock, ↓x_keys, ↓x_cut, ↓x_lc, ↓x_rng1, ↓x_rng2, ↓x_lst1, ↓x_itup, ↓x_rng3, ↓x_three, ↓x_lstg, ↓x_tupg, ↓x_adrS, ↓x_one, ↓x_two, ↓x_adr, ↓x_sl, ↓x_np, ↓x_pt, ↓x_int, ↓x_bm, ↓x_bm0, ↓x_consg, ↓x_nilg, ↓x_dget2, ↓x_dget1, ↓x_dget, ↓x_din, ↓x_dni, ↓x_dput, ↓x_dpop2, ↓r_isB, ↓r_notB, ↓x_enum, ↓x_zip, ↓x_str, ↓x_strE, ↓r_inS, ↓r_ninS, wipe, List.map_cons, List.map_nil, ↓x_isT, ↓r_isiII, ↓r_isiBB, ↓r_isiIB, ↓r_isiSS, ↓r_neNS, ↓r_neSN, ↓r_neNN, ↓r_eqNS, ↓r_eqSN, ↓r_eqNN, ↓r_eqIS, ↓r_neIS, ↓r_neSI, ↓r_neBS, ↓r_eqBB, ↓r_neBB, ↓x_start, ↓x_K, ↓x_start0, ↓r_i0, ↓r_i, ↓r_u, ↓r_addI, ↓r_addS, ↓r_mulI, ↓r_mulS, ↓r_eqI, ↓r_neI, ↓r_eqS, ↓r_neS, ↓r_absI, ↓r_intI, ↓r_intB, List.length_cons, List.length_nil, List.replicate, List.set_cons_zero, List.set_cons_succ, decide_eq_true_eq, Bool.not_eq_true', decide_eq_false_iff_not, if_true, if_false, Bool.false_eq_true, Bool.true_eq_false, ite_true, ite_false, Bool.not_true, Bool.not_false, c_div, n_ten, c_pow, not_true_eq_false, not_false_eq_true, decide_true, decide_false, true_and, and_true, and_self, true_or, or_true, Int.reduceLT, Int.reduceLE, Int.reduceMul, Int.reduceAdd, Int.reduceSub, Int.reducePow, Int.reduceNeg, Int.reduceDiv, Int.reduceMod, Nat.reducePow, Int.reduceToNat, Int.reduceEq, Int.reduceNe, Nat.reduceLT, Nat.reduceLeDiff, Nat.reduceAdd, ↓x_whole, ↓x_disp, ↓x_pnil, ↓x_pcons, ↓x_disp, ↓x_pnil, ↓x_pcons])
def sp_next29 (_ : PySem.W.Frag) : Sp := fun vs H Q _ => ∃ n, vs = [.int n] ∧ ∀ m : Nat, Q (.int (m : Int)) H
def sp_hand29 (_ : PySem.W.Frag) : Sp := fun vs H Q _ => ∃ n : Nat, vs = [.int n] ∧ n < 3 ∧ Q (.bl true) H
def sp_slots29 (_ : PySem.W.Frag) : Sp := fun vs H Q _ => ∃ a fk S, ∃ h i k : Nat, ∃ row : List Th, vs = [.ref a.s, .int h, .int i] ∧ R29 H a fk S ∧ h < 3 ∧ S.hs[h]? = some (.cell k) ∧ S.cs[k]? = some row ∧ i < row.length ∧ ∀ r, a.rows[k]? = some r → Q (.ref r) H
def sp_deed29 (_ : PySem.W.Frag) : Sp := fun vs H Q _ => ∃ a fk S S' t, ∃ d : De, vs = [.ref a.s, .ref t] ∧ R29 H a fk S ∧ S.hs.length = 3 ∧ H t = some (.tup d.V) ∧ step d S = some S' ∧ S.cs.length ≤ 1000 ∧ ∀ a' H', R29 H' a' fk S' → Stp H a H' a' → Q (.bl true) H'
theorem step_len {d : De} {S S' : S29} (e : step d S = some S') : S'.hs.length = S.hs.length ∧ S'.cs.length ≤ S.cs.length + 1 := by
  cases d with
  | make h n =>
    dsimp only [step] at e
    split at e
    · cases e
      exact ⟨List.length_set .., Nat.le_of_eq (List.length_append ..)⟩
    · cases e
  | keep h n =>
    dsimp only [step] at e
    split at e
    · cases e
      exact ⟨List.length_set .., Nat.le_succ _⟩
    · cases e
  | share h g =>
    dsimp only [step] at e
    split at e
    · cases eg : S.hs[g]? with
      | none => rw [eg] at e; cases e
      | some th =>
        rw [eg] at e
        cases e
        exact ⟨List.length_set .., Nat.le_succ _⟩
    · cases e
  | drop h =>
    dsimp only [step] at e
    split at e
    · cases e
      exact ⟨List.length_set .., Nat.le_succ _⟩
    · cases e
  | take h g s =>
    dsimp only [step] at e
    split at e
    · cases eg : S.hs[g]? with
      | none => rw [eg] at e; cases e
      | some th =>
        rw [eg] at e
        cases th with
        | cell k =>
          dsimp only at e
          cases er : S.cs[k]? with
          | none => rw [er] at e; cases e
          | some row =>
            rw [er] at e
            dsimp only [Option.bind_some] at e
            cases ew : row[s]? with
            | none => rw [ew] at e; cases e
            | some th =>
              rw [ew] at e
              cases e
              exact ⟨List.length_set .., Nat.le_succ _⟩
        | no => cases e
        | num n => cases e
    · cases e
  | put h s g =>
    dsimp only [step] at e
    cases eg : S.hs[h]? with
    | none => rw [eg] at e; cases e
    | some th =>
      rw [eg] at e
      cases th with
      | cell k =>
        cases eh : S.hs[g]? with
        | none => rw [eh] at e; cases e
        | some tg =>
          rw [eh] at e
          dsimp only at e
          cases er : S.cs[k]? with
          | none => rw [er] at e; cases e
          | some row =>
            rw [er] at e
            dsimp only [Option.bind_some] at e
            split at e
            · cases e
              exact ⟨rfl, by show (S.cs.set _ _).length ≤ _; rw [List.length_set]; exact Nat.le_succ _⟩
            · cases e
      | no => cases e
      | num n => cases e
  | read h =>
    dsimp only [step] at e
    split at e
    · cases e
      exact ⟨rfl, Nat.le_succ _⟩
    · cases e
def sp_all29 (_ : PySem.W.Frag) : Sp := fun vs H Q _ => ∃ a fk S S' l rs, ∃ ds : List De, vs = [.ref a.s, .ref l] ∧ R29 H a fk S ∧ S.hs.length = 3 ∧ l ∉ a.own ∧ H l = some (.lst rs) ∧ DeL H rs ds ∧ runD ds S = some S' ∧ S.cs.length + ds.length ≤ 1000 ∧ ∀ a' H', R29 H' a' fk S' → Stp H a H' a' → Q (.bl true) H'
def sp_cells29 (_ : PySem.W.Frag) : Sp := fun vs H Q _ => ∃ a fk S due dl dv, vs = [.ref a.s, .ref dl] ∧ R29 H a fk S ∧ H dl = some (.lst dv) ∧ Reps H dv due ∧ due.length ≤ 42 ∧ (∀ (p k : Nat), due[p]? = some (.cell k) → k < S.cs.length) ∧
  ∀ (l : Addr) (ks : List Nat) (H' : Hp), H l = none → Same H H' → H' l = some (.lst (ks.map fun k : Nat => V.int k)) → ks.length ≤ 42 → (∀ c ∈ ks, ∃ k row, due[c]? = some (.cell k) ∧ S.cs[k]? = some row ∧ row ≠ []) → Q (.ref l) H'
def sp_statement29 (_ : PySem.W.Frag) : Sp := fun vs H Q _ => ∃ a fk S due N nl dl dv z, vs = [.ref a.s, .ref nl, .ref dl, .int z] ∧ R29 H a fk S ∧ H nl = some (.lst (SgL N)) ∧ H dl = some (.lst dv) ∧ Reps H dv due ∧ due.length ≤ 42 ∧ N.length = due.length ∧ 0 < due.length ∧ (∀ (p k : Nat), due[p]? = some (.cell k) → k < S.cs.length) ∧
  ∀ st t H', OkS S due st → H t = none → Same H H' → H' t = some (.tup (Sm.V N st)) → Q (.ref t) H'
def sp_due29 (_ : PySem.W.Frag) : Sp := fun vs H Q _ => ∃ a fk S due N nl dl dv st t, vs = [.ref a.s, .ref nl, .ref dl, .ref t] ∧ R29 H a fk S ∧ H nl = some (.lst (SgL N)) ∧ H dl = some (.lst dv) ∧ Reps H dv due ∧ N.length = due.length ∧ Once N ∧ OkS S due st ∧ H t = some (.tup (Sm.V N st)) ∧
  ∀ l fv H', H l = none → Same H H' → H' l = some (.lst fv) → Reps H' fv (dueS S due st) → Q (.ref l) H'
def Fk (fk : List (Key × V)) (n : Nat) : Prop := ∀ k : Nat, (valV fk (.inl (k : Int) : Key)).isSome = decide (k < n)
def sp_stepped29 (_ : PySem.W.Frag) : Sp := fun vs H Q _ => ∃ a fk S nf due N nl dl dv st t, vs = [.ref a.s, .ref nl, .ref dl, .ref t] ∧ R29 H a fk S ∧ Fr nf S due ∧ Fk fk nf ∧ nl ∉ a.own ∧ dl ∉ a.own ∧ H nl = some (.lst (SgL N)) ∧ H dl = some (.lst dv) ∧ Reps H dv due ∧ N.length = due.length ∧ N.length ≤ 42 ∧ Once N ∧ OkS S due st ∧ S.cs.length ≤ 100 ∧ H t = some (.tup (Sm.V N st)) ∧
  ∀ a' S' l fv H', R29 H' a' fk S' → Stp H a H' a' → Fr nf S' (dueS S due st) → S'.cs.length ≤ S.cs.length + 1 → l ∉ a'.own → H l = none → H' l = some (.lst fv) → Reps H' fv (dueS S due st) → Q (.ref l) H'
theorem tk_put {H : Hp} {l : Addr} {xs ys : List V} (g : H l = some (.lst xs)) : Tk H (upd H l (.lst ys)) := fun t zs e => (upd_ne fun z => by rw [z, g] at e; cases e).trans e
def DuM (a : A29) (nl dl t l : Addr) (wd : Str) (i : Nat) (H : Hp) (due : List Th) : L2.St → Hp → Prop := fun σ' H' => ∃ o7 fv, σ' = [some (.ref a.s), some (.ref nl), some (.ref dl), some (.ref t), some (.str wd), some (.int (i : Int)), some (.ref l), o7] ∧ H' l = some (.lst fv) ∧ Reps H' fv due ∧ Same H H'
def sp_stands29 (_ : PySem.W.Frag) : Sp := fun vs H Q _ => ∃ a fk S nf due N nl dl dv, vs = [.ref a.s, .ref nl, .ref dl] ∧ R29 H a fk S ∧ Fr nf S due ∧ nl ∉ a.own ∧ dl ∉ a.own ∧ H nl = some (.lst (SgL N)) ∧ H dl = some (.lst dv) ∧ Reps H dv due ∧ Once N ∧ N.length = due.length ∧ N.length ≤ 42 ∧ S.cs.length ≤ 100 ∧ ∀ a' H', R29 H' a' fk S → Stp H a H' a' → Q (.bl true) H'
section
variable {P : Program} {w : World} {K : PySem.W.Frag} {mg : Str → Option Value} {base : Heap}
theorem f__law_next (T : Tx K mg) : Fn P w K mg base 1 "_law_next" ["_law_seed"] (sp_next29 K) := by
  refine T.mkFn 7 7 (d := d__law_next) (N := ["_law_seed"]) (k := 0) rfl rfl rfl rfl rfl sc__law_next (fun _ _ _ _ _ _ us hl => match us, hl with | [_], _ => rfl) (fun vs H Q E h => ?len) (fun cdv A outer s H vs Q E hr h => ⟨_,
      (pss_one (ps_ret (pe_op op_mod (pe_op op_gAdd (pe_op op_gMul (pv 0) pe_int) pe_int) pe_int))), ?rd⟩)
  case len => obtain ⟨_, rfl, _⟩ := h; rfl
  case rd =>
    obtain ⟨n, rfl, q⟩ := h
    walk_at "wt"
    obtain ⟨m, e⟩ := Int.eq_ofNat_of_zero_le (Int.emod_nonneg (n * 48271 + 11) (show (2147483647 : Int) ≠ 0 by decide))
    rw [e]
    exact q m
theorem f__law_is_hand (T : Tx K mg) : Fn P w K mg base 1 "_law_is_hand" ["_law_thing"] (sp_hand29 K) := by
  refine T.mkFn 9 9 (d := d__law_is_hand) (N := ["_law_thing"]) (k := 0) rfl rfl rfl rfl rfl sc__law_is_hand (fun _ _ _ _ _ _ us hl => match us, hl with | [_], _ => rfl) (fun vs H Q E h => ?len) (fun cdv A outer s H vs Q E hr h => ⟨_,
      (pss_one (ps_ret (pe_and (pe_callB call_gIsi (by rfl) (T.free 22) (by decide +kernel) (pa_cons (pv 0) (pa_cons (pe_ty (T := "int") (T.free 27) (by decide +kernel) (by rfl)) pa_nil))) (pe_and (pe_not (pe_callB call_gIsi (by rfl) (T.free 22) (by decide +kernel) (pa_cons (pv 0) (pa_cons (pe_ty (T := "bool") (T.free 28) (by decide +kernel) (by rfl)) pa_nil)))) (pe_one (pe_chain op_le op_lt pe_int (pv 0) pe_int)))))), ?rd⟩)
  case len => obtain ⟨_, rfl, _⟩ := h; rfl
  case rd =>
    obtain ⟨n, rfl, hn, q⟩ := h
    walk_at "wt"
    rw [if_pos (by omega), decide_eq_true (by omega)]
    exact q
theorem f__law_slots (T : Tx K mg) : Fn P w K mg base 2 "_law_slots" ["_law_s", "_law_hand", "_law_slot"] (sp_slots29 K) := by
  have c__law_is_hand := f__law_is_hand (P := P) (w := w) (base := base) T
  refine T.mkFn 10 10 (d := d__law_slots) (N := ["_law_s", "_law_hand", "_law_slot", "_law_row"]) (k := 1) rfl rfl rfl rfl rfl sc__law_slots (fun _ _ _ _ _ _ us hl => match us, hl with | [_, _, _], _ => rfl) (fun vs H Q E h => ?len) (fun cdv A outer s H vs Q E hr h => ⟨_,
      (pss_cons (ps_if (PW.pt (pw_or (pt_not (pt_val (pe_fn (takes_of rfl rfl rfl rfl) c__law_is_hand (hr.mono (by decide)) (by rfl) (pa_cons (pv 1) pa_nil)))) (pw_or (pt_not (pt_val (pe_callB call_gIsi (by rfl) (T.free 22) (by decide +kernel) (pa_cons (pe_ix (ix_seqK (K := K) rfl) (pe_dget (hu_of hr) (pv 0) pe_str (fun _ _ => rfl)) (pv 1) (fun _ _ => rfl)) (pa_cons (pe_ty (T := "tuple") (T.free 30) (by decide +kernel) (by rfl)) pa_nil))))) (pw_or1 (pt_not (pt_val (pe_callB call_gIsi (by rfl) (T.free 22) (by decide +kernel) (pa_cons (pv 2) (pa_cons (pe_ty (T := "int") (T.free 27) (by decide +kernel) (by rfl)) pa_nil))))))))) (pss_one (ps_ret pe_non)) pss_nil)
        (pss_cons (ps_set (i := 3) sc__law_slots.nd rfl (Or.inl rfl) (pe_ix (ix_seqK (K := K) rfl) (pe_dget (hu_of hr) (pv 0) pe_str (fun _ _ => rfl)) (pe_ix (ix_seqK (K := K) rfl) (pe_ix (ix_seqK (K := K) rfl) (pe_dget (hu_of hr) (pv 0) pe_str (fun _ _ => rfl)) (pv 1) (fun _ _ => rfl)) pe_int (fun _ _ => rfl)) (fun _ _ => rfl)))
        (pss_cons (ps_if (PW.pt (pw_or (pt_val (pe_callB call_gIsi (by rfl) (T.free 22) (by decide +kernel) (pa_cons (pv 2) (pa_cons (pe_ty (T := "bool") (T.free 28) (by decide +kernel) (by rfl)) pa_nil)))) (pw_or1 (pt_not (pt_chain op_le op_lt pe_int (pv 2) (pe_callB (call_lenK (K := K) rfl) (by rfl) (T.free 23) PySem.boot_len (pa_cons (pv 3) pa_nil))))))) (pss_one (ps_ret pe_non)) pss_nil)
        (pss_one (ps_ret (pv 3)))))), ?rd⟩)
  case len => obtain ⟨_, _, _, _, _, _, _, rfl, _⟩ := h; rfl
  case rd =>
    obtain ⟨a, fk, S, h, i, k, row, rfl, R, hh, e1, e2, il, q⟩ := h
    walk_at "wt"
    refine ⟨h, rfl, hh, ?_⟩
    walk_at "wt"
    obtain ⟨vs, v, g, ev, rv⟩ := R.hand e1
    obtain ⟨t, rfl, ht⟩ := rv
    obtain ⟨r, er⟩ := R.rowAt e2
    obtain ⟨ws, gr, rr⟩ := R.cs k r row er e2
    refine ⟨_, R.getH, r_ixL g ev (r_isiT ht ?_)⟩
    walk_at "wt"
    refine ⟨_, R.getC, _, R.getH, r_ixL g ev (r_ixT (i := 1) ht rfl (r_ixL R.cl (by rw [List.getElem?_map, er]; rfl) ?_))⟩
    rw [if_pos (by omega)]
    refine r_lenL gr ?_
    rw [rr.1]
    walk_at "wt"
    rw [if_neg (by omega)]
    exact q r er
theorem f__law_deed (T : Tx K mg) : Fn P w K mg base 3 "_law_deed" ["_law_s", "_law_deed_here"] (sp_deed29 K) := by
  have c__law_is_hand := f__law_is_hand (P := P) (w := w) (base := base) T
  have c__law_slots := f__law_slots (P := P) (w := w) (base := base) T
  refine T.mkFn 11 11 (d := d__law_deed) (N := ["_law_s", "_law_deed_here", "_law_row"]) (k := 2) rfl rfl rfl rfl rfl sc__law_deed (fun _ _ _ _ _ _ us hl => match us, hl with | [_, _], _ => rfl) (fun vs H Q E h => ?len) (fun cdv A outer s H vs Q E hr h => ⟨_,
      (pss_cons (ps_if (PW.pt (pw_or (pt_not (pt_val (pe_callB call_gIsi (by rfl) (T.free 22) (by decide +kernel) (pa_cons (pv 1) (pa_cons (pe_ty (T := "tuple") (T.free 30) (by decide +kernel) (by rfl)) pa_nil))))) (pw_or (pt_cmpR op_lt (pe_callB (call_lenK (K := K) rfl) (by rfl) (T.free 23) PySem.boot_len (pa_cons (pv 1) pa_nil)) pe_int (nomark _)) (pw_or1 (pt_not (pt_val (pe_fn (takes_of rfl rfl rfl rfl) c__law_is_hand (hr.mono (by decide)) (by rfl) (pa_cons (pe_ix (ix_seqK (K := K) rfl) (pv 1) pe_int (fun _ _ => rfl)) pa_nil)))))))) (pss_one (ps_ret pe_bl)) pss_nil)
        (pss_cons (ps_if (PW.pt (pw_and (pt_cmpR (op_eqK (K := K) rfl hr.units) (pe_ix (ix_seqK (K := K) rfl) (pv 1) pe_int (fun _ _ => rfl)) pe_str (nomark _)) (pw_and (pt_cmpR (op_eqK (K := K) rfl hr.units) (pe_callB (call_lenK (K := K) rfl) (by rfl) (T.free 23) PySem.boot_len (pa_cons (pv 1) pa_nil)) pe_int (nomark _)) (pw_and (pt_val (pe_callB call_gIsi (by rfl) (T.free 22) (by decide +kernel) (pa_cons (pe_ix (ix_seqK (K := K) rfl) (pv 1) pe_int (fun _ _ => rfl)) (pa_cons (pe_ty (T := "int") (T.free 27) (by decide +kernel) (by rfl)) pa_nil)))) (pw_and1 (pt_chain op_le op_le pe_int (pe_ix (ix_seqK (K := K) rfl) (pv 1) pe_int (fun _ _ => rfl)) pe_int)))))) (pss_cons (ps_expr (pe_bm PySem.F.plainAttrs_list PySem.F.slot_list_append PySem.F.type_list_append mt_append (pe_dget (hu_of hr) (pv 0) pe_str (fun _ _ => rfl)) (pa_cons (pe_op op_gMul (pe_lst (pa_cons pe_non pa_nil)) (pe_ix (ix_seqK (K := K) rfl) (pv 1) pe_int (fun _ _ => rfl))) pa_nil)))
        (pss_one (ps_asg (pe_tup (pa_cons pe_str (pa_cons (pe_op op_sub (pe_callB (call_lenK (K := K) rfl) (by rfl) (T.free 23) PySem.boot_len (pa_cons (pe_dget (hu_of hr) (pv 0) pe_str (fun _ _ => rfl)) pa_nil)) pe_int) pa_nil))) (pg_sub (pe_dget (hu_of hr) (pv 0) pe_str (fun _ _ => rfl)) (pe_ix (ix_seqK (K := K) rfl) (pv 1) pe_int (fun _ _ => rfl)) set_list)))) (pss_one (ps_if (PW.pt (pw_and (pt_cmpR (op_eqK (K := K) rfl hr.units) (pe_ix (ix_seqK (K := K) rfl) (pv 1) pe_int (fun _ _ => rfl)) pe_str (nomark _)) (pw_and (pt_cmpR (op_eqK (K := K) rfl hr.units) (pe_callB (call_lenK (K := K) rfl) (by rfl) (T.free 23) PySem.boot_len (pa_cons (pv 1) pa_nil)) pe_int (nomark _)) (pw_and1 (pt_val (pe_callB call_gIsi (by rfl) (T.free 22) (by decide +kernel) (pa_cons (pe_ix (ix_seqK (K := K) rfl) (pv 1) pe_int (fun _ _ => rfl)) (pa_cons (pe_ty (T := "int") (T.free 27) (by decide +kernel) (by rfl)) pa_nil)))))))) (pss_one (ps_asg (pe_ix (ix_seqK (K := K) rfl) (pv 1) pe_int (fun _ _ => rfl)) (pg_sub (pe_dget (hu_of hr) (pv 0) pe_str (fun _ _ => rfl)) (pe_ix (ix_seqK (K := K) rfl) (pv 1) pe_int (fun _ _ => rfl)) set_list))) (pss_one (ps_if (PW.pt (pw_and (pt_cmpR (op_eqK (K := K) rfl hr.units) (pe_ix (ix_seqK (K := K) rfl) (pv 1) pe_int (fun _ _ => rfl)) pe_str (nomark _)) (pw_and (pt_cmpR (op_eqK (K := K) rfl hr.units) (pe_callB (call_lenK (K := K) rfl) (by rfl) (T.free 23) PySem.boot_len (pa_cons (pv 1) pa_nil)) pe_int (nomark _)) (pw_and1 (pt_val (pe_fn (takes_of rfl rfl rfl rfl) c__law_is_hand (hr.mono (by decide)) (by rfl) (pa_cons (pe_ix (ix_seqK (K := K) rfl) (pv 1) pe_int (fun _ _ => rfl)) pa_nil))))))) (pss_one (ps_asg (pe_ix (ix_seqK (K := K) rfl) (pe_dget (hu_of hr) (pv 0) pe_str (fun _ _ => rfl)) (pe_ix (ix_seqK (K := K) rfl) (pv 1) pe_int (fun _ _ => rfl)) (fun _ _ => rfl)) (pg_sub (pe_dget (hu_of hr) (pv 0) pe_str (fun _ _ => rfl)) (pe_ix (ix_seqK (K := K) rfl) (pv 1) pe_int (fun _ _ => rfl)) set_list))) (pss_one (ps_if (PW.pt (pw_and (pt_cmpR (op_eqK (K := K) rfl hr.units) (pe_ix (ix_seqK (K := K) rfl) (pv 1) pe_int (fun _ _ => rfl)) pe_str (nomark _)) (pw_and1 (pt_cmpR (op_eqK (K := K) rfl hr.units) (pe_callB (call_lenK (K := K) rfl) (by rfl) (T.free 23) PySem.boot_len (pa_cons (pv 1) pa_nil)) pe_int (nomark _))))) (pss_one (ps_asg pe_non (pg_sub (pe_dget (hu_of hr) (pv 0) pe_str (fun _ _ => rfl)) (pe_ix (ix_seqK (K := K) rfl) (pv 1) pe_int (fun _ _ => rfl)) set_list))) (pss_one (ps_if (PW.pt (pw_and (pt_cmpR (op_eqK (K := K) rfl hr.units) (pe_ix (ix_seqK (K := K) rfl) (pv 1) pe_int (fun _ _ => rfl)) pe_str (nomark _)) (pw_and1 (pt_cmpR (op_eqK (K := K) rfl hr.units) (pe_callB (call_lenK (K := K) rfl) (by rfl) (T.free 23) PySem.boot_len (pa_cons (pv 1) pa_nil)) pe_int (nomark _))))) (pss_cons (ps_set (i := 2) sc__law_deed.nd rfl (Or.inl rfl) (pe_fn (takes_of rfl rfl rfl rfl) c__law_slots (hr.mono (by decide)) (by rfl) (pa_cons (pv 0) (pa_cons (pe_ix (ix_seqK (K := K) rfl) (pv 1) pe_int (fun _ _ => rfl)) (pa_cons (pe_ix (ix_seqK (K := K) rfl) (pv 1) pe_int (fun _ _ => rfl)) pa_nil)))))
        (pss_cons (ps_if (pt_cmpR op_isN (pv 2) pe_non (nomark _)) (pss_one (ps_ret pe_bl)) pss_nil)
        (pss_one (ps_asg (pe_ix (ix_seqK (K := K) rfl) (pv 2) (pe_ix (ix_seqK (K := K) rfl) (pv 1) pe_int (fun _ _ => rfl)) (fun _ _ => rfl)) (pg_sub (pe_dget (hu_of hr) (pv 0) pe_str (fun _ _ => rfl)) (pe_ix (ix_seqK (K := K) rfl) (pv 1) pe_int (fun _ _ => rfl)) set_list))))) (pss_one (ps_if (PW.pt (pw_and (pt_cmpR (op_eqK (K := K) rfl hr.units) (pe_ix (ix_seqK (K := K) rfl) (pv 1) pe_int (fun _ _ => rfl)) pe_str (nomark _)) (pw_and1 (pt_cmpR (op_eqK (K := K) rfl hr.units) (pe_callB (call_lenK (K := K) rfl) (by rfl) (T.free 23) PySem.boot_len (pa_cons (pv 1) pa_nil)) pe_int (nomark _))))) (pss_cons (ps_set (i := 2) sc__law_deed.nd rfl (Or.inl rfl) (pe_fn (takes_of rfl rfl rfl rfl) c__law_slots (hr.mono (by decide)) (by rfl) (pa_cons (pv 0) (pa_cons (pe_ix (ix_seqK (K := K) rfl) (pv 1) pe_int (fun _ _ => rfl)) (pa_cons (pe_ix (ix_seqK (K := K) rfl) (pv 1) pe_int (fun _ _ => rfl)) pa_nil)))))
        (pss_cons (ps_if (PW.pt (pw_or (pt_cmpR op_isN (pv 2) pe_non (nomark _)) (pw_or1 (pt_not (pt_val (pe_fn (takes_of rfl rfl rfl rfl) c__law_is_hand (hr.mono (by decide)) (by rfl) (pa_cons (pe_ix (ix_seqK (K := K) rfl) (pv 1) pe_int (fun _ _ => rfl)) pa_nil))))))) (pss_one (ps_ret pe_bl)) pss_nil)
        (pss_one (ps_asg (pe_ix (ix_seqK (K := K) rfl) (pe_dget (hu_of hr) (pv 0) pe_str (fun _ _ => rfl)) (pe_ix (ix_seqK (K := K) rfl) (pv 1) pe_int (fun _ _ => rfl)) (fun _ _ => rfl)) (pg_sub (pv 2) (pe_ix (ix_seqK (K := K) rfl) (pv 1) pe_int (fun _ _ => rfl)) set_list))))) (pss_one (ps_ret (pe_and (pe_cmpR (op_eqK (K := K) rfl hr.units) (pe_ix (ix_seqK (K := K) rfl) (pv 1) pe_int (fun _ _ => rfl)) pe_str (nomark _)) (pe_one (pe_cmpR (op_eqK (K := K) rfl hr.units) (pe_callB (call_lenK (K := K) rfl) (by rfl) (T.free 23) PySem.boot_len (pa_cons (pv 1) pa_nil)) pe_int (nomark _)))))))))))))))))
        (pss_one (ps_ret pe_bl)))), ?rd⟩)
  case len => obtain ⟨_, _, _, _, _, _, rfl, _⟩ := h; rfl
  case rd =>
    obtain ⟨a, fk, S, S', t, d, rfl, R, h3, ht, es, cl, q⟩ := h
    have sz : 10000000 ≤ sizeLine := by rw [sizeLine_eq]; omega
    walk_at "wt"
    cases d with
    | make h n =>
      have ht : H t = some (.tup [.str "make", .int h, .int n]) := ht
      dsimp only [step] at es
      split at es
      · rename_i c
        cases es
        refine r_isiT ht ?_; (walk_at "wt"); refine r_lenT ht ?_; (walk_at "wt"); refine r_ixT (i := 1) ht rfl ⟨h, rfl, by omega, ?_⟩; (walk_at "wt")
        repeat (first | (rw [if_neg (by decide +kernel)]) | (refine r_ixT (i := 0) ht rfl ?_; walk_at "wt"))
        refine r_lenT ht ?_
        walk_at "wt"
        refine r_ixT (i := 2) ht rfl ?_
        walk_at "wt"
        refine r_ixT (i := 2) ht rfl ?_
        walk_at "wt"
        rw [if_pos (by omega), if_pos (by omega)]
        refine ⟨_, R.getC, .inl ⟨rfl, _, .of R.cl⟩, by omega, fun p np => ?_⟩
        have s1 := same_new (o := .lst [.non]) np
        have R2 := R.same s1
        refine r_ixT (i := 2) (s1 _ _ ht) rfl ?_
        have hp : upd H p (.lst [.non]) p = some (.lst [.non]) := upd_same
        have ht2 := s1 _ _ ht
        generalize upd H p (.lst [.non]) = H2 at s1 R2 hp ht2 ⊢
        refine ⟨[.non], hp, by omega, by omega, by show 1 * _ ≤ _; omega, fun r nr => ?_⟩
        rw [rep_none]
        obtain ⟨R3, st3⟩ := R2.grow (n := n) nr
        refine ⟨a.cl, _, _, rfl, rfl, (same_new nr) _ _ R2.cl, by rw [List.length_map, R2.len]; omega, ?_⟩
        have st03 := (Stp.same s1).trans st3
        have ht3 := R2.tk st3 _ _ ht2
        generalize upd (upd H2 r (.lst (List.replicate n .non))) a.cl (.lst (a.rows.map V.ref ++ [.ref r])) = H3 at R3 st3 st03 ht3 ⊢
        refine ⟨_, R3.getC, r_lenL R3.cl ?_⟩
        rw [List.length_map, List.length_append, R.len]
        walk_at "wt"
        rw [show ((S.cs.length + 1 : Nat) : Int) - 1 = (S.cs.length : Int) from by omega]
        refine ⟨by omega, fun u nu => ?_⟩
        have s4 := same_new (o := .tup [.str "cell", .int (S.cs.length : Int)]) nu
        have R4 := R3.same s4
        refine ⟨_, R4.getH, r_ixT (i := 1) (s4 _ _ ht3) rfl (R4.putH h3 c.1 (t := .cell S.cs.length) ⟨u, rfl, upd_same⟩ fun H5 R5 st5 => ?_)⟩
        exact q _ H5 R5 ((st03.trans (Stp.same s4)).trans st5)
      · cases es
    | keep h n =>
      have ht : H t = some (.tup [.str "keep", .int h, .int n]) := ht
      dsimp only [step] at es
      split at es
      · rename_i c
        cases es
        refine r_isiT ht ?_; (walk_at "wt"); refine r_lenT ht ?_; (walk_at "wt"); refine r_ixT (i := 1) ht rfl ⟨h, rfl, by omega, ?_⟩; (walk_at "wt")
        repeat (first | (rw [if_neg (by decide +kernel)]) | (refine r_ixT (i := 0) ht rfl ?_; walk_at "wt"))
        refine r_lenT ht ?_
        walk_at "wt"
        refine r_ixT (i := 2) ht rfl ?_
        walk_at "wt"
        refine r_ixT (i := 2) ht rfl ?_
        exact ⟨_, R.getH, r_ixT (i := 1) ht rfl (R.putH h3 c (t := .num n) rfl fun H5 R5 st5 => q _ H5 R5 st5)⟩
      · cases es
    | share h g =>
      have ht : H t = some (.tup [.str "share", .int h, .int g]) := ht
      dsimp only [step] at es
      split at es
      · rename_i c
        cases eg : S.hs[g]? with
        | none => rw [eg] at es; cases es
        | some th =>
          rw [eg] at es
          cases es
          have gl := (List.getElem?_eq_some_iff.mp eg).1
          obtain ⟨vs, v, gh, ev, rv⟩ := R.hand eg
          refine r_isiT ht ?_; (walk_at "wt"); refine r_lenT ht ?_; (walk_at "wt"); refine r_ixT (i := 1) ht rfl ⟨h, rfl, by omega, ?_⟩; (walk_at "wt")
          repeat (first | (rw [if_neg (by decide +kernel)]) | (refine r_ixT (i := 0) ht rfl ?_; walk_at "wt"))
          refine r_lenT ht ?_
          walk_at "wt"
          refine r_ixT (i := 2) ht rfl ⟨g, rfl, by omega, ?_⟩
          walk_at "wt"
          refine ⟨_, R.getH, r_ixT (i := 2) ht rfl (r_ixL gh ev ?_)⟩
          exact ⟨_, R.getH, r_ixT (i := 1) ht rfl (R.putH h3 c rv fun H5 R5 st5 => q _ H5 R5 st5)⟩
      · cases es
    | drop h =>
      have ht : H t = some (.tup [.str "drop", .int h]) := ht
      dsimp only [step] at es
      split at es
      · rename_i c
        cases es
        refine r_isiT ht ?_; (walk_at "wt"); refine r_lenT ht ?_; (walk_at "wt"); refine r_ixT (i := 1) ht rfl ⟨h, rfl, by omega, ?_⟩; (walk_at "wt")
        repeat (first | (rw [if_neg (by decide +kernel)]) | (refine r_ixT (i := 0) ht rfl ?_; walk_at "wt"))
        refine r_lenT ht ?_
        walk_at "wt"
        exact ⟨_, R.getH, r_ixT (i := 1) ht rfl (R.putH h3 c (t := .no) rfl fun H5 R5 st5 => q _ H5 R5 st5)⟩
      · cases es
    | take h g s =>
      have ht : H t = some (.tup [.str "take", .int h, .int g, .int s]) := ht
      dsimp only [step] at es
      split at es
      · rename_i c
        cases eg : S.hs[g]? with
        | none => rw [eg] at es; cases es
        | some th =>
          rw [eg] at es
          cases th with
          | cell k =>
            dsimp only at es
            cases er : S.cs[k]? with
            | none => rw [er] at es; cases es
            | some row =>
              rw [er] at es
              dsimp only [Option.bind_some] at es
              cases ew : row[s]? with
              | none => rw [ew] at es; cases es
              | some th =>
                rw [ew] at es
                cases es
                have gl := (List.getElem?_eq_some_iff.mp eg).1
                have sl := (List.getElem?_eq_some_iff.mp ew).1
                refine r_isiT ht ?_; (walk_at "wt"); refine r_lenT ht ?_; (walk_at "wt"); refine r_ixT (i := 1) ht rfl ⟨h, rfl, by omega, ?_⟩; (walk_at "wt")
                repeat (first | (rw [if_neg (by decide +kernel)]) | (refine r_ixT (i := 0) ht rfl ?_; walk_at "wt"))
                refine r_lenT ht ?_
                walk_at "wt"
                refine r_ixT (i := 2) ht rfl (r_ixT (i := 3) ht rfl ?_)
                refine ⟨a, fk, S, g, s, k, row, rfl, R, by omega, eg, er, sl, fun r em => ?_⟩
                obtain ⟨ws, gr, rr⟩ := R.cs k r row em er
                obtain ⟨v, ev, rv⟩ := rr.2 s th ew
                walk_at "wt"
                refine r_ixT (i := 3) ht rfl (r_ixL gr ev ?_)
                exact ⟨_, R.getH, r_ixT (i := 1) ht rfl (R.putH h3 c rv fun H5 R5 st5 => q _ H5 R5 st5)⟩
          | no => cases es
          | num n => cases es
      · cases es
    | put h s g =>
      have ht : H t = some (.tup [.str "put", .int h, .int s, .int g]) := ht
      dsimp only [step] at es
      cases eg : S.hs[h]? with
      | none => rw [eg] at es; cases es
      | some th =>
        rw [eg] at es
        cases th with
        | cell k =>
          cases eh : S.hs[g]? with
          | none => rw [eh] at es; cases es
          | some tg =>
            rw [eh] at es
            dsimp only at es
            cases er : S.cs[k]? with
            | none => rw [er] at es; cases es
            | some row =>
              rw [er] at es
              dsimp only [Option.bind_some] at es
              split at es
              · rename_i sl
                cases es
                have c := (List.getElem?_eq_some_iff.mp eg).1
                have gl := (List.getElem?_eq_some_iff.mp eh).1
                refine r_isiT ht ?_; (walk_at "wt"); refine r_lenT ht ?_; (walk_at "wt"); refine r_ixT (i := 1) ht rfl ⟨h, rfl, by omega, ?_⟩; (walk_at "wt")
                repeat (first | (rw [if_neg (by decide +kernel)]) | (refine r_ixT (i := 0) ht rfl ?_; walk_at "wt"))
                refine r_lenT ht ?_
                walk_at "wt"
                refine r_ixT (i := 1) ht rfl (r_ixT (i := 2) ht rfl ?_)
                refine ⟨a, fk, S, h, s, k, row, rfl, R, by omega, eg, er, sl, fun r em => ?_⟩
                obtain ⟨ws, gr, rr⟩ := R.cs k r row em er
                obtain ⟨vs, v, gh, ev, rv⟩ := R.hand eh
                walk_at "wt"
                refine r_ixT (i := 3) ht rfl ⟨g, rfl, by omega, ?_⟩
                walk_at "wt"
                refine ⟨_, R.getH, r_ixT (i := 3) ht rfl (r_ixL gh ev (r_ixT (i := 2) ht rfl ?_))⟩
                refine ⟨r, ws, _, s, rfl, rfl, gr, ixN_nat (by rw [rr.1]; exact sl), ?_⟩
                exact q _ _ (R.setC em er gr rr rv) (Stp.put (by simp only [A29.own, List.mem_cons]; exact .inr (.inr (.inr (.inr (List.mem_of_getElem? em))))))
              · cases es
        | no => cases es
        | num n => cases es
    | read h =>
      have ht : H t = some (.tup [.str "read", .int h]) := ht
      dsimp only [step] at es
      split at es
      · rename_i c
        cases es
        refine r_isiT ht ?_; (walk_at "wt"); refine r_lenT ht ?_; (walk_at "wt"); refine r_ixT (i := 1) ht rfl ⟨h, rfl, by omega, ?_⟩; (walk_at "wt")
        repeat (first | (rw [if_neg (by decide +kernel)]) | (refine r_ixT (i := 0) ht rfl ?_; walk_at "wt"))
        refine r_lenT ht ?_
        walk_at "wt"
        exact q _ _ R Stp.refl
      · cases es
theorem f__law_all (T : Tx K mg) : Fn P w K mg base 4 "_law_all" ["_law_s", "_law_deeds"] (sp_all29 K) := by
  have c__law_deed := f__law_deed (P := P) (w := w) (base := base) T
  refine T.mkFn 12 12 (d := d__law_all) (N := ["_law_s", "_law_deeds", "_law_deed_here"]) (k := 3) rfl rfl rfl rfl rfl sc__law_all (fun _ _ _ _ _ _ us hl => match us, hl with | [_, _], _ => rfl) (fun vs H Q E h => ?len) (fun cdv A outer s H vs Q E hr h => ⟨_,
      (pss_cons (ps_if (pt_not (pt_val (pe_callB call_gIsi (by rfl) (T.free 22) (by decide +kernel) (pa_cons (pv 1) (pa_cons (pe_ty (T := "list") (T.free 29) (by decide +kernel) (by rfl)) pa_nil))))) (pss_one (ps_ret pe_bl)) pss_nil)
        (pss_cons (ps_for (passes_of rfl) rfl (pi_listK (K := K) rfl (pv 1)) (pg_name (i := 2) sc__law_all.nd rfl (Or.inl rfl)) (pss_one (ps_if (pt_not (pt_val (pe_fn (takes_of rfl rfl rfl rfl) c__law_deed (hr.mono (by decide)) (by rfl) (pa_cons (pv 0) (pa_cons (pv 2) pa_nil))))) (pss_one (ps_ret pe_bl)) pss_nil)))
        (pss_one (ps_ret pe_bl)))), ?rd⟩)
  case len => obtain ⟨_, _, _, _, _, _, _, rfl, _⟩ := h; rfl
  case rd =>
    obtain ⟨a, fk, S, S', l, rs, ds, rfl, R, h3, nl, hl, D, er, cl, q⟩ := h
    have sz : 10000000 ≤ sizeLine := by rw [sizeLine_eq]; omega
    walk_at "wt"
    refine r_isiL hl ?_
    walk_at "wt"
    refine ⟨⟨_, .of hl⟩, forW_list (xs := rs) (fun i σ H1 => ∃ a1 S1 o2, σ = [some (.ref a.s), some (.ref l), o2] ∧ R29 H1 a1 fk S1 ∧ Stp H a H1 a1 ∧ S1.hs.length = 3 ∧ runD (ds.drop i) S1 = some S' ∧ S1.cs.length ≤ S.cs.length + i) ⟨a, S, _, rfl, R, .refl, h3, by rw [List.drop_zero]; exact er, Nat.le_refl _⟩ ?_ ?_ ?_⟩
    · rintro i σ H1 hi ⟨a1, S1, o2, rfl, R1, st, -⟩
      exact .of (st.keep _ _ nl hl)
    · rintro i x σ H1 hx ⟨a1, S1, o2, rfl, R1, st, h31, er1, le⟩
      have il := (List.getElem?_eq_some_iff.mp hx).1
      rw [D.1] at il
      obtain ⟨t, et, ht⟩ := D.2 i ds[i] (List.getElem?_eq_getElem il)
      rw [hx] at et
      cases et
      rw [List.drop_eq_getElem_cons il] at er1
      have er2 : (step ds[i] S1).bind (runD (ds.drop (i + 1))) = some S' := er1
      cases e2 : step ds[i] S1 with
      | none => rw [e2] at er2; cases er2
      | some S2 =>
        rw [e2] at er2
        have ln := step_len e2
        walk_at "wt"
        refine ⟨a1, fk, S1, S2, t, ds[i], by rw [st.s], R1, h31, R.tk st _ _ ht, e2, by omega, fun a2 H2 R2 st2 => ?_⟩
        walk_at "wt"
        exact ⟨a2, S2, _, rfl, R2, st.trans st2, by rw [ln.1, h31], er2, by omega⟩
    · rintro σ H1 ⟨a1, S1, o2, rfl, R1, st, h31, er1, le⟩
      rw [D.1, List.drop_length] at er1
      cases er1
      exact q a1 H1 R1 st
theorem f__law_stands (T : Tx K mg) : Fn P w K mg base 5 "_law_stands" ["_law_s", "_law_names_here", "_law_due_here"] (sp_stands29 K) := by
  have c__law_all := f__law_all (P := P) (w := w) (base := base) T
  have c_loaded := f_loaded (P := P) (w := w) (base := base) T
  refine T.mkFn 13 13 (d := d__law_stands) (N := ["_law_s", "_law_names_here", "_law_due_here", "_law_kept", "_law_cells_here", "_law_row", "_law_k", "_law_name", "_law_hand", "_law_other"]) (k := 4) rfl rfl rfl rfl rfl sc__law_stands (fun _ _ _ _ _ _ us hl => match us, hl with | [_, _, _], _ => rfl) (fun vs H Q E h => ?len) (fun cdv A outer s H vs Q E hr h => ⟨_,
      (pss_cons (ps_set (i := 3) sc__law_stands.nd rfl (Or.inl rfl) (pe_callTy (call_listK (K := K) rfl) (by rfl) (T.free 29) (by decide +kernel) (pa_cons (pe_dget (hu_of hr) (pv 0) pe_str (fun _ _ => rfl)) pa_nil)))
        (pss_cons (ps_setLc (i := 4) (own := [("_law_row", 5)]) (g := gName 5) rfl sc__law_stands.nd rfl rfl (sw_true rfl rfl rfl (by decide +kernel)) (pi_listK (K := K) rfl (pe_dget (hu_of hr) (pv 0) pe_str (fun _ _ => rfl))) (blkOk_by (own := [("_law_row", 5)]) (N := ["_law_s", "_law_names_here", "_law_due_here", "_law_kept", "_law_cells_here", "_law_row", "_law_k", "_law_name", "_law_hand", "_law_other"]) (sc := defScope s__law_stands) (by decide +kernel)) (fun _ _ _ _ _ => (pg_name (i := 5) sc__law_stands.nd rfl (Or.inl rfl))) (fun _ _ _ _ _ => pts_nil) (fun _ _ _ _ _ => (pe_callTy (call_listK (K := K) rfl) (by rfl) (T.free 29) (by decide +kernel) (pa_cons (pv 5) pa_nil))))
        (pss_cons (ps_for (passes_of rfl) rfl (pi_enum (by rfl) (T.free 26) (pa_cons (pv 1) pa_nil)) (pg_tup (n := 2) rfl (pgs_cons (pg_name (i := 6) sc__law_stands.nd rfl (Or.inl rfl)) (pgs_cons (pg_name (i := 7) sc__law_stands.nd rfl (Or.inl rfl)) pgs_nil))) (pss_cons (ps_set (i := 8) sc__law_stands.nd rfl (Or.inl rfl) (pe_op op_gAdd pe_int (pe_op op_mod (pv 6) pe_int)))
        (pss_cons (ps_if (PW.pt (pw_or (pt_not (pt_val (pe_fn (takes_of rfl rfl rfl rfl) c__law_all (hr.mono (by decide)) (by rfl) (pa_cons (pv 0) (pa_cons (pe_fn (takes_of rfl rfl rfl rfl) c_loaded (hr.mono (by decide)) (by rfl) (pa_cons (pv 1) (pa_cons (pv 7) (pa_cons (pv 8) pa_nil)))) pa_nil))))) (pw_or1 (pt_cmpR (op_neK (K := K) rfl hr.units) (pe_ix (ix_seqK (K := K) rfl) (pe_dget (hu_of hr) (pv 0) pe_str (fun _ _ => rfl)) (pv 8) (fun _ _ => rfl)) (pe_ix (ix_seqK (K := K) rfl) (pv 2) (pv 6) (fun _ _ => rfl)) (nomark _))))) (pss_one (ps_ret pe_bl)) pss_nil)
        (pss_cons (ps_for (passes_of rfl) rfl (pi_range1 rfl (T.free 24) (pa_cons pe_int pa_nil)) (pg_name (i := 9) sc__law_stands.nd rfl (Or.inl rfl)) (pss_one (ps_if (PW.pt (pw_and (pt_cmpR (op_neK (K := K) rfl hr.units) (pv 9) (pv 8) (nomark _)) (pw_and1 (pt_cmpR (op_neK (K := K) rfl hr.units) (pe_ix (ix_seqK (K := K) rfl) (pe_dget (hu_of hr) (pv 0) pe_str (fun _ _ => rfl)) (pv 9) (fun _ _ => rfl)) (pe_ix (ix_seqK (K := K) rfl) (pv 3) (pv 9) (fun _ _ => rfl)) (nomark _))))) (pss_one (ps_ret pe_bl)) pss_nil)))
        (pss_one (ps_dput (hu_of hr) (pv 0) pe_str (pe_callTy (call_listK (K := K) rfl) (by rfl) (T.free 29) (by decide +kernel) (pa_cons (pv 3) pa_nil)) rfl))))))
        (pss_one (ps_ret (pe_cmpR (op_eqK (K := K) rfl hr.units) (pe_dget (hu_of hr) (pv 0) pe_str (fun _ _ => rfl)) (pv 4) (nomark _))))))), ?rd⟩)
  case len => obtain ⟨_, _, _, _, _, _, _, _, _, rfl, _⟩ := h; rfl
  case rd =>
    obtain ⟨a, fk, S, nf, due, N, nl, dl, dv, rfl, R, F, n1, n2, hn, hd, rd, on, le, l42, cl, q⟩ := h
    have sz : 10000000 ≤ sizeLine := by rw [sizeLine_eq]; omega
    walk_at "wt"
    obtain ⟨kv, gh, rh⟩ := R.hs
    refine ⟨_, R.getH, a.hl, kv, rfl, .inl (.of gh), fun p np => ?_⟩
    have s1 := same_new (o := .lst kv) np
    have R1 := R.same s1
    have hp : upd H p (.lst kv) p = some (.lst kv) := upd_same
    generalize upd H p (.lst kv) = H1 at s1 R1 hp ⊢
    refine ⟨_, R1.getC, a.cl, rfl, ⟨_, .of R1.cl⟩, lc_copy (fun _ => rfl) (fun v H Q q => ⟨v, rfl, q⟩) R1 (by omega) fun D cr H2 s2 nD C nc => ?_⟩
    have s02 := s1.trans s2
    have R2 := R1.same s2
    have hp2 := s2 _ _ hp
    have np2 : p ∉ a.own := R.new np
    have hn2 := s02 _ _ hn
    have hd2 := s02 _ _ hd
    have rd2 := rd.tk (Same.tk s02)
    have kr2 := rh.tk (Same.tk s02)
    have cn : ∀ b ∈ D :: cr, b ∉ a.own := fun b m => by
      rcases List.mem_cons.mp m with rfl | m
      · exact R1.new nD
      · exact R1.new (nc b m)
    have nf1 := F.pos
    walk_at "wt"
    refine ⟨nl, _, rfl, .of hn2, for_it (walk_enum (xs := SgL N)) (fun i σ H' => ∃ a' o6 o7 o8 o9, σ = [some (.ref a.s), some (.ref nl), some (.ref dl), some (.ref p), some (.ref D), none, o6, o7, o8, o9] ∧ R29 H' a' fk S ∧ Stp H2 a H' a') ⟨a, _, _, _, _, rfl, R2, .refl⟩ ?_ ?_ ?_⟩
    · rintro i σ H' _ ⟨a', o6, o7, o8, o9, rfl, R', st⟩
      exact .of (st.keep _ _ n1 hn2)
    · rintro i x σ H1x H3 hi ⟨a', o6, o7, o8, o9, rfl, R', st⟩ ⟨T, y, z, rfl, hT, rfl, e1, e2⟩
      rw [SgL_len] at hi
      cases Option.some.inj e1
      have e2 : (SgL N)[i]? = some z := e2
      obtain ⟨nm, en, rfl⟩ := SgL_mem e2
      have sT := same_new (o := .tup [.int (i : Nat), .str (Sg nm)]) hT
      have hT3 : upd H1x T (.tup [.int (i : Nat), .str (Sg nm)]) T = some (.tup [.int (i : Nat), .str (Sg nm)]) := upd_same
      have R3 := R'.same sT
      have st3 := st.trans (.same sT)
      generalize upd H1x T (.tup [.int (i : Nat), .str (Sg nm)]) = H3 at sT hT3 R3 st3 ⊢
      have tk3 := R2.tk st3
      walk_at "wt"
      refine ⟨_, .inl (.inl hT3), rfl, ?_⟩
      walk_at "wt"
      rw [show 1 + (i : Int) % 2 = ((1 + i % 2 : Nat) : Int) from by omega]
      obtain ⟨th, eth⟩ := at_lt (l := due) (i := i) (by omega)
      refine ⟨nl, i, 1 + i % 2, N, nm, rfl, st3.keep _ _ n1 hn2, by omega, on, en, fun l rs H4 nlx s4 g4 D4 => ?_⟩
      have R4 := R3.same s4
      have st4 := st3.trans (.same s4)
      have ll := loadedD_len (p := i) (h := 1 + i % 2)
      refine ⟨a', fk, S, _, l, rs, _, by rw [st.s], R4, F.h3, R3.new nlx, g4, D4, F.load eth (by omega) (by omega), by omega, fun a5 H5 R5 st5 => ?_⟩
      have st25 := st4.trans st5
      have tk5 := R2.tk st25
      have e5 : a5.s = a.s := st25.s
      obtain ⟨vs5, v5, g5, ev5, rv5⟩ := R5.hand (set_at F.h3 (by omega : 1 + i % 2 < 3))
      obtain ⟨vd, evd, rvd⟩ := rd2.2 i th eth
      have hd5 := st25.keep _ _ n2 hd2
      have hp5 := st25.keep _ _ np2 hp2
      have gH5 := R5.getH
      rw [e5] at gH5
      walk_at "wt"
      refine ⟨_, gH5, r_ixL g5 ev5 (r_ixL hd5 evd (r_neTh rv5 (rvd.tk tk5) ?_))⟩
      walk_at "wt"
      obtain ⟨kv5, gk5, rk5⟩ : ∃ kv, H5 p = some (.lst kv) ∧ Reps H5 kv S.hs := ⟨kv, hp5, kr2.tk tk5⟩
      refine forW_range (fun j σ Hx => ∃ o9, Hx = H5 ∧ σ = [some (V.ref a.s), some (V.ref nl), some (V.ref dl), some (V.ref p), some (V.ref D), none, some (V.int ↑i), some (V.str (Sg nm)), some (V.int ↑(1 + i % 2)), o9]) ⟨_, rfl, rfl⟩ ?_ ?_
      · rintro j σ Hx hj ⟨o9, rfl, rfl⟩
        have hj3 : j < 3 := hj
        walk_at "wt"
        split
        · rename_i c
          have cj : j ≠ 1 + i % 2 := by omega
          obtain ⟨t2, et2⟩ := at_lt (l := S.hs) (i := j) (by rw [F.h3]; exact hj3)
          obtain ⟨v2, ev2, rv2⟩ := rk5.2 j t2 et2
          obtain ⟨vs6, v6, g6, ev6, rv6⟩ := R5.hand (i := j) (t := t2) (by show (S.hs.set _ _)[j]? = _; rw [List.getElem?_set_ne (Ne.symm cj)]; exact et2)
          rw [show (0 : Int) + (j : Int) = ((j : Nat) : Int) from by omega]
          refine ⟨_, gH5, r_ixL g6 ev6 (r_ixL gk5 ev2 (r_neTh rv6 rv2 ?_))⟩
          walk_at "wt"
          exact ⟨_, rfl⟩
        · exact ⟨_, rfl⟩
      · rintro σ Hx ⟨o9, rfl, rfl⟩
        walk_at "wt"
        refine ⟨p, kv5, rfl, .inl (.of gk5), fun l2 nl2 => ?_⟩
        have R6 := R5.same (same_new (o := .lst kv5) nl2)
        have pt := R6.putHands (l := l2)
        rw [e5] at pt
        refine ⟨_, pt, ?_⟩
        have R7 := R6.newH (l := l2) (vs := kv5) (ts := S.hs) (R5.new nl2) upd_same (rk5.tk (Same.tk (same_new nl2)))
        have st7 := stp_newH R5 (l := l2) (vs := kv5) (x := .dK (kdK (.ref l2) (.ref a5.cl) (.ref a5.fl))) nl2
        rw [e5] at R7 st7
        exact ⟨_, _, _, _, _, rfl, R7, st25.trans st7⟩
    rintro σ H' ⟨a', o6, o7, o8, o9, rfl, R', st⟩
    walk_at "wt"
    have C' := C.stp R2 st cn
    have gC := R'.getC
    rw [st.s] at gC
    refine ⟨_, gC, r_eqSame R'.cp.dp C'.dp cs_sh (q a' H' R' ((Stp.same s02).trans st))⟩
theorem f__law_cells (T : Tx K mg) : Fn P w K mg base 1 "_law_cells" ["_law_s", "_law_due_here"] (sp_cells29 K) := by
  refine T.mkFn 14 14 (d := d__law_cells) (N := ["_law_s", "_law_due_here", "_law_k"]) (k := 0) rfl rfl rfl rfl rfl sc__law_cells (fun _ _ _ _ _ _ us hl => match us, hl with | [_, _], _ => rfl) (fun vs H Q E h => ?len) (fun cdv A outer s H vs Q E hr h => ⟨_,
      (pss_one (ps_ret (pe_lc (own := [("_law_k", 2)]) (g := gName 2) rfl sc__law_cells.nd (pi_range1 rfl (T.free 24) (pa_cons (pe_callB (call_lenK (K := K) rfl) (by rfl) (T.free 23) PySem.boot_len (pa_cons (pv 1) pa_nil)) pa_nil)) (blkOk_by (own := [("_law_k", 2)]) (N := ["_law_s", "_law_due_here", "_law_k"]) (sc := defScope s__law_cells) (by decide +kernel)) (fun _ _ _ _ _ => (pg_name (i := 2) sc__law_cells.nd rfl (Or.inl rfl))) (fun _ _ _ _ _ => pts_one (PW.pt (pw_and (pt_val (pe_callB call_gIsi (by rfl) (T.free 22) (by decide +kernel) (pa_cons (pe_ix (ix_seqK (K := K) rfl) (pv 1) (pv 2) (fun _ _ => rfl)) (pa_cons (pe_ty (T := "tuple") (T.free 30) (by decide +kernel) (by rfl)) pa_nil)))) (pw_and1 (pt_cmpR (op_neK (K := K) rfl hr.units) (pe_ix (ix_seqK (K := K) rfl) (pe_dget (hu_of hr) (pv 0) pe_str (fun _ _ => rfl)) (pe_ix (ix_seqK (K := K) rfl) (pe_ix (ix_seqK (K := K) rfl) (pv 1) (pv 2) (fun _ _ => rfl)) pe_int (fun _ _ => rfl)) (fun _ _ => rfl)) (pe_lst pa_nil) (nomark _)))))) (fun _ _ _ _ _ => (pv 2))))), ?rd⟩)
  case len => obtain ⟨_, _, _, _, _, _, rfl, _⟩ := h; rfl
  case rd =>
    obtain ⟨a, fk, S, due, dl, dv, rfl, R, hd, rd, l42, dk, q⟩ := h
    have sz : 10000000 ≤ sizeLine := by rw [sizeLine_eq]; omega
    walk_at "wt"
    refine r_lenL hd ?_
    rw [rd.1]
    walk_at "wt"
    refine ⟨by omega, by omega, fun D nD => ?_⟩
    rw [Int.toNat_natCast]
    refine lc_range (fun i Hx => ∃ ks : List Nat, Hx D = some (.lst (ks.map fun k : Nat => V.int k)) ∧ Same H Hx ∧ ks.length ≤ i ∧ ∀ c ∈ ks, ∃ k row, due[c]? = some (.cell k) ∧ S.cs[k]? = some row ∧ row ≠ []) ⟨[], upd_same, same_new nD, Nat.le_refl _, fun c m => (List.not_mem_nil m).elim⟩ ?_ ?_
    · rintro i Hx hi ⟨ks, g, s, lk, kg⟩
      refine ⟨rfl, ?_⟩
      walk_at "wt"
      obtain ⟨th, eth⟩ := at_lt hi
      obtain ⟨v, ev, rv⟩ := rd.2 i th eth
      rw [Int.zero_add]
      refine r_ixL (s _ _ hd) ev ?_
      have rv : RepT Hx v th := rv.tk (Same.tk s)
      obtain ⟨ty, ety, eb⟩ := RepT.ty rv
      refine r_isi ety ?_
      rw [eb]
      cases th with
      | cell k =>
        show ∃ c, V.bl true = .bl c ∧ _
        obtain ⟨u, rfl, hu⟩ := rv
        have kl := dk i k eth
        obtain ⟨row, er⟩ := at_lt kl
        have R' := R.same s
        obtain ⟨r, err⟩ := R'.rowAt er
        obtain ⟨ws, gr, rr⟩ := R'.cs k r row err er
        walk_at "wt"
        refine ⟨_, R'.getC, r_ixL (s _ _ hd) ev (r_ixT (i := 1) hu rfl (r_ixL R'.cl (by rw [List.getElem?_map, err]; rfl) ⟨by omega, fun p np => ?_⟩))⟩
        have s2 := same_new (o := .lst []) np
        refine r_neE (s2 _ _ gr) (rr.tk (Same.tk s2)).dps ((ShK.lst ths_sh).ok (by decide)) upd_same ?_
        walk_at "wt"
        have g2 := s2 _ _ g
        by_cases ne : List.map Th.d row = []
        · rw [if_neg (fun z => z ne)]
          exact ⟨ks, g2, s.trans s2, by omega, kg⟩
        · rw [if_pos ne]
          refine ⟨_, g2, by rw [List.length_map]; omega, ks ++ [i], by rw [List.map_append]; exact upd_same, fun b o e => (upd_ne (ne_of_none e nD)).trans (s2 _ _ (s _ _ e)), by rw [List.length_append]; show _ + 1 ≤ _; omega, fun c m => ?_⟩
          rcases List.mem_append.mp m with m | m
          · exact kg c m
          · rw [List.mem_singleton.mp m]
            exact ⟨k, row, eth, er, fun z => ne (by rw [z]; rfl)⟩
      | no =>
        walk_at "wt"
        exact ⟨ks, g, s, by omega, kg⟩
      | num n =>
        walk_at "wt"
        exact ⟨ks, g, s, by omega, kg⟩
    · rintro Hx ⟨ks, g, s, lk, kg⟩
      exact q D ks Hx nD s g (by omega) kg
theorem f__law_statement (T : Tx K mg) : Fn P w K mg base 2 "_law_statement" ["_law_s", "_law_names_here", "_law_due_here", "_law_seed"] (sp_statement29 K) := by
  have c__law_cells := f__law_cells (P := P) (w := w) (base := base) T
  refine T.mkFn 15 15 (d := d__law_statement) (N := ["_law_s", "_law_names_here", "_law_due_here", "_law_seed", "_law_one", "_law_other", "_law_wide", "_law_pick", "_law_cell", "_law_slot"]) (k := 1) rfl rfl rfl rfl rfl sc__law_statement (fun _ _ _ _ _ _ us hl => match us, hl with | [_, _, _, _], _ => rfl) (fun vs H Q E h => ?len) (fun cdv A outer s H vs Q E hr h => ⟨_,
      (pss_cons (ps_set (i := 4) sc__law_statement.nd rfl (Or.inl rfl) (pe_op op_mod (pe_op op_fdiv (pv 3) pe_int) (pe_callB (call_lenK (K := K) rfl) (by rfl) (T.free 23) PySem.boot_len (pa_cons (pv 1) pa_nil))))
        (pss_cons (ps_set (i := 5) sc__law_statement.nd rfl (Or.inl rfl) (pe_op op_mod (pe_op op_fdiv (pv 3) pe_int) (pe_callB (call_lenK (K := K) rfl) (by rfl) (T.free 23) PySem.boot_len (pa_cons (pv 1) pa_nil))))
        (pss_cons (ps_set (i := 6) sc__law_statement.nd rfl (Or.inl rfl) (pe_fn (takes_of rfl rfl rfl rfl) c__law_cells (hr.mono (by decide)) (by rfl) (pa_cons (pv 0) (pa_cons (pv 2) pa_nil))))
        (pss_cons (ps_set (i := 7) sc__law_statement.nd rfl (Or.inl rfl) (pe_op op_mod (pv 3) pe_int))
        (pss_cons (ps_if (PW.pt (pw_or (pt_cmpR (op_eqK (K := K) rfl hr.units) (pv 7) pe_int (nomark _)) (pw_or1 (PW.pt (pw_and (pt_cmpR op_gt (pv 7) pe_int (nomark _)) (pw_and1 (pt_cmpR (op_eqK (K := K) rfl hr.units) (pv 6) (pe_lst pa_nil) (nomark _)))))))) (pss_one (ps_ret (pe_tup (pa_cons pe_str (pa_cons (pe_ix (ix_seqK (K := K) rfl) (pv 1) (pv 4) (fun _ _ => rfl)) (pa_cons (pe_op op_mod (pe_op op_fdiv (pv 3) pe_int) pe_int) pa_nil)))))) pss_nil)
        (pss_cons (ps_if (pt_cmpR (op_eqK (K := K) rfl hr.units) (pv 7) pe_int (nomark _)) (pss_one (ps_ret (pe_tup (pa_cons pe_str (pa_cons (pe_ix (ix_seqK (K := K) rfl) (pv 1) (pv 4) (fun _ _ => rfl)) (pa_cons (pe_op op_sub (pe_op op_mod (pe_op op_fdiv (pv 3) pe_int) pe_int) pe_int) pa_nil)))))) pss_nil)
        (pss_cons (ps_if (pt_cmpR (op_eqK (K := K) rfl hr.units) (pv 7) pe_int (nomark _)) (pss_one (ps_ret (pe_tup (pa_cons pe_str (pa_cons (pe_ix (ix_seqK (K := K) rfl) (pv 1) (pv 4) (fun _ _ => rfl)) (pa_cons (pe_ix (ix_seqK (K := K) rfl) (pv 1) (pv 5) (fun _ _ => rfl)) pa_nil)))))) pss_nil)
        (pss_cons (ps_if (pt_cmpR (op_eqK (K := K) rfl hr.units) (pv 7) pe_int (nomark _)) (pss_one (ps_ret (pe_tup (pa_cons pe_str (pa_cons (pe_ix (ix_seqK (K := K) rfl) (pv 1) (pv 4) (fun _ _ => rfl)) pa_nil))))) pss_nil)
        (pss_cons (ps_set (i := 8) sc__law_statement.nd rfl (Or.inl rfl) (pe_ix (ix_seqK (K := K) rfl) (pv 6) (pe_op op_mod (pe_op op_fdiv (pv 3) pe_int) (pe_callB (call_lenK (K := K) rfl) (by rfl) (T.free 23) PySem.boot_len (pa_cons (pv 6) pa_nil))) (fun _ _ => rfl)))
        (pss_cons (ps_set (i := 9) sc__law_statement.nd rfl (Or.inl rfl) (pe_op op_mod (pe_op op_fdiv (pv 3) pe_int) (pe_callB (call_lenK (K := K) rfl) (by rfl) (T.free 23) PySem.boot_len (pa_cons (pe_ix (ix_seqK (K := K) rfl) (pe_dget (hu_of hr) (pv 0) pe_str (fun _ _ => rfl)) (pe_ix (ix_seqK (K := K) rfl) (pe_ix (ix_seqK (K := K) rfl) (pv 2) (pv 8) (fun _ _ => rfl)) pe_int (fun _ _ => rfl)) (fun _ _ => rfl)) pa_nil))))
        (pss_cons (ps_if (pt_cmpR (op_eqK (K := K) rfl hr.units) (pv 7) pe_int (nomark _)) (pss_one (ps_ret (pe_tup (pa_cons pe_str (pa_cons (pe_ix (ix_seqK (K := K) rfl) (pv 1) (pv 4) (fun _ _ => rfl)) (pa_cons (pe_ix (ix_seqK (K := K) rfl) (pv 1) (pv 8) (fun _ _ => rfl)) (pa_cons (pv 9) pa_nil))))))) pss_nil)
        (pss_cons (ps_if (pt_cmpR (op_eqK (K := K) rfl hr.units) (pv 7) pe_int (nomark _)) (pss_one (ps_ret (pe_tup (pa_cons pe_str (pa_cons (pe_ix (ix_seqK (K := K) rfl) (pv 1) (pv 8) (fun _ _ => rfl)) (pa_cons (pv 9) (pa_cons (pe_ix (ix_seqK (K := K) rfl) (pv 1) (pv 5) (fun _ _ => rfl)) pa_nil))))))) pss_nil)
        (pss_one (ps_ret (pe_tup (pa_cons pe_str (pa_cons (pe_ix (ix_seqK (K := K) rfl) (pv 1) (pv 4) (fun _ _ => rfl)) pa_nil))))))))))))))))), ?rd⟩)
  case len => obtain ⟨_, _, _, _, _, _, _, _, _, rfl, _⟩ := h; rfl
  case rd =>
    obtain ⟨a, fk, S, due, N, nl, dl, dv, z, rfl, R, hn, hd, rd, l42, ln, l0, dk, q⟩ := h
    have sz : 10000000 ≤ sizeLine := by rw [sizeLine_eq]; omega
    have md : ∀ (y : Int) (n : Nat), 0 < n → ∃ i : Nat, y % (n : Int) = i ∧ i < n := fun y n hn => by
      have p1 := Int.emod_nonneg y (show (n : Int) ≠ 0 by omega)
      have p2 := Int.emod_lt_of_pos y (show (0 : Int) < (n : Int) by omega)
      exact ⟨(y % (n : Int)).toNat, by omega, by omega⟩
    walk_at "wt"
    obtain ⟨i, ei, hi⟩ := md (z / 7) N.length (by omega)
    obtain ⟨j, ej, hj⟩ := md (z / 301) N.length (by omega)
    obtain ⟨m, em, hm⟩ := md (z / 11) 9 (by omega)
    rw [show ((9 : Nat) : Int) = 9 from rfl] at em
    refine r_lenL hn ?_
    rw [SgL_len]
    walk_at "wt"
    refine ⟨by omega, ?_⟩
    rw [ei]
    refine r_lenL hn ?_
    rw [SgL_len]
    walk_at "wt"
    refine ⟨by omega, ?_⟩
    rw [ej]
    refine ⟨a, fk, S, due, dl, dv, rfl, R, hd, rd, l42, dk, fun l ks H1 nl' s1 g kl kg => ?_⟩
    have fin : ∀ (Hx : Hp) (st : Sm), Same H Hx → OkS S due st → ∀ p, Hx p = none → Q (.ref p) (upd Hx p (.tup (Sm.V N st))) := fun Hx st s ok p np => q st p _ ok (none_of s np) (s.trans (same_new np)) upd_same
    have nmi := SgL_at (nm_at hi)
    have nmj := SgL_at (nm_at hj)
    rw [em]
    dsimp only
    by_cases c0 : z % 7 = 0
    · rw [if_pos c0]
      exact r_ixL (s1 _ _ hn) nmi ⟨by omega, fin H1 (.make i m) s1 ⟨by omega, by omega⟩⟩
    rw [if_neg c0]
    by_cases c3 : 3 < z % 7
    · rw [if_pos c3]
      refine ⟨by omega, fun p np => ?_⟩
      have s2 := same_new (o := .lst []) np
      refine r_eqE (s2 _ _ g) nats_dp nats_sh upd_same ?_
      have s02 := s1.trans s2
      have g2 := s2 _ _ g
      generalize upd H1 p (.lst []) = H2 at s02 g2 ⊢
      walk_at "wt"
      by_cases kn : List.map (fun k : Nat => PyData.int k) ks = []
      · rw [if_pos kn]
        exact r_ixL (s02 _ _ hn) nmi ⟨by omega, fin H2 (.make i m) s02 ⟨by omega, by omega⟩⟩
      rw [if_neg kn]
      have k0 : 0 < ks.length := by
        cases ks with
        | nil => exact absurd rfl kn
        | cons x y => exact Nat.succ_pos _
      walk_at "wt"
      rw [if_neg (by omega), if_neg (by omega), if_neg (by omega)]
      refine r_lenL g2 ?_
      rw [List.length_map]
      walk_at "wt"
      refine ⟨by omega, ?_⟩
      obtain ⟨x, ex, hx⟩ := md (z / 17) ks.length k0
      rw [ex]
      have ec : ks[x]? = some ks[x] := List.getElem?_eq_getElem hx
      obtain ⟨k, row, d1, d2, d3⟩ := kg ks[x] (List.mem_of_getElem? ec)
      generalize ks[x] = c at ec d1 ⊢
      have cl := (List.getElem?_eq_some_iff.mp d1).1
      refine r_ixL g2 (by rw [List.getElem?_map, ec]; rfl) ?_
      have R2 := R.same s02
      obtain ⟨r, er⟩ := R2.rowAt d2
      obtain ⟨ws, gr, rr⟩ := R2.cs k r row er d2
      obtain ⟨vd, evd, rvd⟩ := rd.2 c _ d1
      obtain ⟨u, rfl, hu⟩ := rvd.tk (Same.tk s02)
      refine ⟨_, R2.getC, r_ixL (s02 _ _ hd) evd (r_ixT (i := 1) hu rfl (r_ixL R2.cl (by rw [List.getElem?_map, er]; rfl) (r_lenL gr ?_)))⟩
      have r0 : 0 < row.length := by
        cases row with
        | nil => exact absurd rfl d3
        | cons x y => exact Nat.succ_pos _
      rw [rr.1]
      walk_at "wt"
      refine ⟨by omega, ?_⟩
      obtain ⟨y, ey, hy⟩ := md (z / 19) row.length r0
      rw [ey]
      have nmc := SgL_at (nm_at (N := N) (i := c) (by omega))
      by_cases c4 : z % 7 = 4
      · rw [if_pos c4]
        exact r_ixL (s02 _ _ hn) nmi (r_ixL (s02 _ _ hn) nmc ⟨by omega, fin H2 (.get i c y) s02 ⟨by omega, k, row, d1, d2, hy⟩⟩)
      rw [if_neg c4]
      by_cases c5 : z % 7 = 5
      · rw [if_pos c5]
        exact r_ixL (s02 _ _ hn) nmc (r_ixL (s02 _ _ hn) nmj ⟨by omega, fin H2 (.set c y j) s02 ⟨by omega, k, row, d1, d2, hy⟩⟩)
      · rw [if_neg c5]
        exact r_ixL (s02 _ _ hn) nmi ⟨by omega, fin H2 (.tell i) s02 (show i < due.length by omega)⟩
    · rw [if_neg c3]
      by_cases c4 : z % 7 = 1
      · rw [if_pos c4]
        exact r_ixL (s1 _ _ hn) nmi ⟨by omega, fin H1 (.keep i _) s1 (show i < due.length by omega)⟩
      rw [if_neg c4]
      by_cases c5 : z % 7 = 2
      · rw [if_pos c5]
        exact r_ixL (s1 _ _ hn) nmi (r_ixL (s1 _ _ hn) nmj ⟨by omega, fin H1 (.copy i j) s1 ⟨by omega, by omega⟩⟩)
      rw [if_neg c5]
      by_cases c6 : z % 7 = 3
      · rw [if_pos c6]
        exact r_ixL (s1 _ _ hn) nmi ⟨by omega, fin H1 (.drop i) s1 (show i < due.length by omega)⟩
      · omega
theorem f__law_due (T : Tx K mg) : Fn P w K mg base 1 "_law_due" ["_law_s", "_law_names_here", "_law_due_here", "_law_statement_here"] (sp_due29 K) := by
  refine T.mkFn 16 16 (d := d__law_due) (N := ["_law_s", "_law_names_here", "_law_due_here", "_law_statement_here", "_law_word", "_law_place", "_law_fresh", "_law_held"]) (k := 0) rfl rfl rfl rfl rfl sc__law_due (fun _ _ _ _ _ _ us hl => match us, hl with | [_, _, _, _], _ => rfl) (fun vs H Q E h => ?len) (fun cdv A outer s H vs Q E hr h => ⟨_,
      (pss_cons (ps_set (i := 4) sc__law_due.nd rfl (Or.inl rfl) (pe_ix (ix_seqK (K := K) rfl) (pv 3) pe_int (fun _ _ => rfl)))
        (pss_cons (ps_set (i := 5) sc__law_due.nd rfl (Or.inl rfl) (pe_bm PySem.F.plainAttrs_list PySem.F.slot_list_index PySem.F.type_list_index (mt_indexK (K := K) rfl) (pv 1) (pa_cons (pe_ix (ix_seqK (K := K) rfl) (pv 3) pe_int (fun _ _ => rfl)) pa_nil)))
        (pss_cons (ps_set (i := 6) sc__law_due.nd rfl (Or.inl rfl) (pe_callTy (call_listK (K := K) rfl) (by rfl) (T.free 29) (by decide +kernel) (pa_cons (pv 2) pa_nil)))
        (pss_cut (ps_if (pt_cmpR (op_eqK (K := K) rfl hr.units) (pv 4) pe_str (nomark _)) (pss_one (ps_asg (pe_tup (pa_cons pe_str (pa_cons (pe_callB (call_lenK (K := K) rfl) (by rfl) (T.free 23) PySem.boot_len (pa_cons (pe_dget (hu_of hr) (pv 0) pe_str (fun _ _ => rfl)) pa_nil)) pa_nil))) (pg_sub (pv 6) (pv 5) set_list))) pss_nil)
        (pss_cut (ps_if (pt_cmpR (op_eqK (K := K) rfl hr.units) (pv 4) pe_str (nomark _)) (pss_one (ps_asg (pe_ix (ix_seqK (K := K) rfl) (pv 3) pe_int (fun _ _ => rfl)) (pg_sub (pv 6) (pv 5) set_list))) pss_nil)
        (pss_cut (ps_if (pt_cmpR (op_eqK (K := K) rfl hr.units) (pv 4) pe_str (nomark _)) (pss_one (ps_asg (pe_ix (ix_seqK (K := K) rfl) (pv 2) (pe_bm PySem.F.plainAttrs_list PySem.F.slot_list_index PySem.F.type_list_index (mt_indexK (K := K) rfl) (pv 1) (pa_cons (pe_ix (ix_seqK (K := K) rfl) (pv 3) pe_int (fun _ _ => rfl)) pa_nil)) (fun _ _ => rfl)) (pg_sub (pv 6) (pv 5) set_list))) pss_nil)
        (pss_cut (ps_if (pt_cmpR (op_eqK (K := K) rfl hr.units) (pv 4) pe_str (nomark _)) (pss_one (ps_asg pe_non (pg_sub (pv 6) (pv 5) set_list))) pss_nil)
        (pss_cut (ps_if (pt_cmpR (op_eqK (K := K) rfl hr.units) (pv 4) pe_str (nomark _)) (pss_cons (ps_set (i := 7) sc__law_due.nd rfl (Or.inl rfl) (pe_ix (ix_seqK (K := K) rfl) (pv 2) (pe_bm PySem.F.plainAttrs_list PySem.F.slot_list_index PySem.F.type_list_index (mt_indexK (K := K) rfl) (pv 1) (pa_cons (pe_ix (ix_seqK (K := K) rfl) (pv 3) pe_int (fun _ _ => rfl)) pa_nil)) (fun _ _ => rfl)))
        (pss_one (ps_asg (pe_ix (ix_seqK (K := K) rfl) (pe_ix (ix_seqK (K := K) rfl) (pe_dget (hu_of hr) (pv 0) pe_str (fun _ _ => rfl)) (pe_ix (ix_seqK (K := K) rfl) (pv 7) pe_int (fun _ _ => rfl)) (fun _ _ => rfl)) (pe_ix (ix_seqK (K := K) rfl) (pv 3) pe_int (fun _ _ => rfl)) (fun _ _ => rfl)) (pg_sub (pv 6) (pv 5) set_list)))) pss_nil)
        (pss_one (ps_ret (pv 6))))))))))), ?rd⟩)
  case len => obtain ⟨_, _, _, _, _, _, _, _, _, _, rfl, _⟩ := h; rfl
  case rd =>
    obtain ⟨a, fk, S, due, N, nl, dl, dv, st, t, rfl, R, hn, hd, rd, ln, on, ok, ht, q⟩ := h
    have sz : 10000000 ≤ sizeLine := by rw [sizeLine_eq]; omega
    walk_at "wt"
    cases st with
    | make i n =>
      have ok1 : i < due.length := ok.1
      refine r_ixT (i := 0) ht rfl ⟨.inl ⟨rfl, _, .of hn⟩, r_ixT (i := 1) ht rfl (r_index hn on (nm_at (by omega : i < N.length)) ?_).2⟩
      refine ⟨dl, dv, rfl, .inl (.of hd), fun l nl' => ?_⟩
      have s := same_new (o := .lst dv) nl'
      have g : upd H l (.lst dv) l = some (.lst dv) := upd_same
      have r := rd.tk (Same.tk s)
      generalize upd H l (.lst dv) = H1 at s g r ⊢
      walk_at "wt"
      refine ⟨DuM a nl dl t l "make" i H (dueS S due (.make i n)), ?_, ?_⟩
      · have R' := R.same s
        refine ⟨_, R'.getC, r_lenL R'.cl ⟨by omega, fun p np => ?_⟩⟩
        rw [List.length_map, R.len]
        have s2 := same_new (o := .tup [.str "cell", .int (S.cs.length : Int)]) np
        have g := s2 _ _ g
        have r := r.tk (Same.tk s2)
        have s := s.trans s2
        have hp : upd H1 p (.tup [.str "cell", .int (S.cs.length : Int)]) p = some (.tup [.str "cell", .int (S.cs.length : Int)]) := upd_same
        generalize upd H1 p (.tup [.str "cell", .int (S.cs.length : Int)]) = H2 at s g r hp ⊢
        refine ⟨l, _, _, i, rfl, rfl, g, ixN_nat (by rw [r.1]; omega), ⟨_, _, rfl, upd_same, (r.tk (tk_put g)).set (RepT.tk (t := .cell S.cs.length) ⟨p, rfl, hp⟩ (tk_put g)), fun b o e => (upd_ne (ne_of_none e nl')).trans (s _ _ e)⟩⟩
      rintro σ' H' ⟨o7, fv, rfl, g, r, s⟩
      walk_at "wt"
      refine ⟨DuM a nl dl t l "make" i H (dueS S due (.make i n)), ?_, ?_⟩
      · walk_at "wt"
        rw [if_neg (by decide +kernel)]
        exact ⟨_, _, rfl, g, r, s⟩
      rintro σ' H' ⟨o7, fv, rfl, g, r, s⟩
      walk_at "wt"
      refine ⟨DuM a nl dl t l "make" i H (dueS S due (.make i n)), ?_, ?_⟩
      · walk_at "wt"
        rw [if_neg (by decide +kernel)]
        exact ⟨_, _, rfl, g, r, s⟩
      rintro σ' H' ⟨o7, fv, rfl, g, r, s⟩
      walk_at "wt"
      refine ⟨DuM a nl dl t l "make" i H (dueS S due (.make i n)), ?_, ?_⟩
      · walk_at "wt"
        rw [if_neg (by decide +kernel)]
        exact ⟨_, _, rfl, g, r, s⟩
      rintro σ' H' ⟨o7, fv, rfl, g, r, s⟩
      walk_at "wt"
      refine ⟨DuM a nl dl t l "make" i H (dueS S due (.make i n)), ?_, ?_⟩
      · walk_at "wt"
        rw [if_neg (by decide +kernel)]
        exact ⟨_, _, rfl, g, r, s⟩
      rintro σ' H' ⟨o7, fv, rfl, g, r, s⟩
      walk_at "wt"
      exact q l fv _ nl' s g r
    | keep i n =>
      have ok : i < due.length := ok
      refine r_ixT (i := 0) ht rfl ⟨.inl ⟨rfl, _, .of hn⟩, r_ixT (i := 1) ht rfl (r_index hn on (nm_at (by omega : i < N.length)) ?_).2⟩
      refine ⟨dl, dv, rfl, .inl (.of hd), fun l nl' => ?_⟩
      have s := same_new (o := .lst dv) nl'
      have g : upd H l (.lst dv) l = some (.lst dv) := upd_same
      have r := rd.tk (Same.tk s)
      generalize upd H l (.lst dv) = H1 at s g r ⊢
      walk_at "wt"
      refine ⟨DuM a nl dl t l "keep" i H (due), ?_, ?_⟩
      · walk_at "wt"
        rw [if_neg (by decide +kernel)]
        exact ⟨_, _, rfl, g, r, s⟩
      rintro σ' H' ⟨o7, fv, rfl, g, r, s⟩
      walk_at "wt"
      refine ⟨DuM a nl dl t l "keep" i H (dueS S due (.keep i n)), ?_, ?_⟩
      · refine r_ixT (i := 2) (s _ _ ht) rfl ?_
        refine ⟨l, _, _, i, rfl, rfl, g, ixN_nat (by rw [r.1]; omega), ⟨_, _, rfl, upd_same, (r.tk (tk_put g)).set (show RepT _ _ (.num n) from rfl), fun b o e => (upd_ne (ne_of_none e nl')).trans (s _ _ e)⟩⟩
      rintro σ' H' ⟨o7, fv, rfl, g, r, s⟩
      walk_at "wt"
      refine ⟨DuM a nl dl t l "keep" i H (dueS S due (.keep i n)), ?_, ?_⟩
      · walk_at "wt"
        rw [if_neg (by decide +kernel)]
        exact ⟨_, _, rfl, g, r, s⟩
      rintro σ' H' ⟨o7, fv, rfl, g, r, s⟩
      walk_at "wt"
      refine ⟨DuM a nl dl t l "keep" i H (dueS S due (.keep i n)), ?_, ?_⟩
      · walk_at "wt"
        rw [if_neg (by decide +kernel)]
        exact ⟨_, _, rfl, g, r, s⟩
      rintro σ' H' ⟨o7, fv, rfl, g, r, s⟩
      walk_at "wt"
      refine ⟨DuM a nl dl t l "keep" i H (dueS S due (.keep i n)), ?_, ?_⟩
      · walk_at "wt"
        rw [if_neg (by decide +kernel)]
        exact ⟨_, _, rfl, g, r, s⟩
      rintro σ' H' ⟨o7, fv, rfl, g, r, s⟩
      walk_at "wt"
      exact q l fv _ nl' s g r
    | copy i j =>
      have ok1 : i < due.length := ok.1
      have ok2 : j < due.length := ok.2
      refine r_ixT (i := 0) ht rfl ⟨.inl ⟨rfl, _, .of hn⟩, r_ixT (i := 1) ht rfl (r_index hn on (nm_at (by omega : i < N.length)) ?_).2⟩
      refine ⟨dl, dv, rfl, .inl (.of hd), fun l nl' => ?_⟩
      have s := same_new (o := .lst dv) nl'
      have g : upd H l (.lst dv) l = some (.lst dv) := upd_same
      have r := rd.tk (Same.tk s)
      generalize upd H l (.lst dv) = H1 at s g r ⊢
      walk_at "wt"
      refine ⟨DuM a nl dl t l "copy" i H (due), ?_, ?_⟩
      · walk_at "wt"
        rw [if_neg (by decide +kernel)]
        exact ⟨_, _, rfl, g, r, s⟩
      rintro σ' H' ⟨o7, fv, rfl, g, r, s⟩
      walk_at "wt"
      refine ⟨DuM a nl dl t l "copy" i H (due), ?_, ?_⟩
      · walk_at "wt"
        rw [if_neg (by decide +kernel)]
        exact ⟨_, _, rfl, g, r, s⟩
      rintro σ' H' ⟨o7, fv, rfl, g, r, s⟩
      walk_at "wt"
      refine ⟨DuM a nl dl t l "copy" i H (dueS S due (.copy i j)), ?_, ?_⟩
      · refine ⟨.inl ⟨rfl, _, .of (s _ _ hn)⟩, r_ixT (i := 2) (s _ _ ht) rfl (r_index (s _ _ hn) on (nm_at (by omega : j < N.length)) ?_).2⟩
        obtain ⟨th, eth⟩ := at_lt ok2
        obtain ⟨v, ev, rv⟩ := rd.2 j th eth
        refine r_ixL (s _ _ hd) ev ?_
        refine ⟨l, _, _, i, rfl, rfl, g, ixN_nat (by rw [r.1]; omega), ⟨_, _, rfl, upd_same, (r.tk (tk_put g)).set (by rw [getD_of eth]; exact (rv.tk (Same.tk s)).tk (tk_put g)), fun b o e => (upd_ne (ne_of_none e nl')).trans (s _ _ e)⟩⟩
      rintro σ' H' ⟨o7, fv, rfl, g, r, s⟩
      walk_at "wt"
      refine ⟨DuM a nl dl t l "copy" i H (dueS S due (.copy i j)), ?_, ?_⟩
      · walk_at "wt"
        rw [if_neg (by decide +kernel)]
        exact ⟨_, _, rfl, g, r, s⟩
      rintro σ' H' ⟨o7, fv, rfl, g, r, s⟩
      walk_at "wt"
      refine ⟨DuM a nl dl t l "copy" i H (dueS S due (.copy i j)), ?_, ?_⟩
      · walk_at "wt"
        rw [if_neg (by decide +kernel)]
        exact ⟨_, _, rfl, g, r, s⟩
      rintro σ' H' ⟨o7, fv, rfl, g, r, s⟩
      walk_at "wt"
      exact q l fv _ nl' s g r
    | drop i =>
      have ok : i < due.length := ok
      refine r_ixT (i := 0) ht rfl ⟨.inl ⟨rfl, _, .of hn⟩, r_ixT (i := 1) ht rfl (r_index hn on (nm_at (by omega : i < N.length)) ?_).2⟩
      refine ⟨dl, dv, rfl, .inl (.of hd), fun l nl' => ?_⟩
      have s := same_new (o := .lst dv) nl'
      have g : upd H l (.lst dv) l = some (.lst dv) := upd_same
      have r := rd.tk (Same.tk s)
      generalize upd H l (.lst dv) = H1 at s g r ⊢
      walk_at "wt"
      refine ⟨DuM a nl dl t l "drop" i H (due), ?_, ?_⟩
      · walk_at "wt"
        rw [if_neg (by decide +kernel)]
        exact ⟨_, _, rfl, g, r, s⟩
      rintro σ' H' ⟨o7, fv, rfl, g, r, s⟩
      walk_at "wt"
      refine ⟨DuM a nl dl t l "drop" i H (due), ?_, ?_⟩
      · walk_at "wt"
        rw [if_neg (by decide +kernel)]
        exact ⟨_, _, rfl, g, r, s⟩
      rintro σ' H' ⟨o7, fv, rfl, g, r, s⟩
      walk_at "wt"
      refine ⟨DuM a nl dl t l "drop" i H (due), ?_, ?_⟩
      · walk_at "wt"
        rw [if_neg (by decide +kernel)]
        exact ⟨_, _, rfl, g, r, s⟩
      rintro σ' H' ⟨o7, fv, rfl, g, r, s⟩
      walk_at "wt"
      refine ⟨DuM a nl dl t l "drop" i H (dueS S due (.drop i)), ?_, ?_⟩
      · skip
        refine ⟨l, _, _, i, rfl, rfl, g, ixN_nat (by rw [r.1]; omega), ⟨_, _, rfl, upd_same, (r.tk (tk_put g)).set (show RepT _ _ .no from rfl), fun b o e => (upd_ne (ne_of_none e nl')).trans (s _ _ e)⟩⟩
      rintro σ' H' ⟨o7, fv, rfl, g, r, s⟩
      walk_at "wt"
      refine ⟨DuM a nl dl t l "drop" i H (dueS S due (.drop i)), ?_, ?_⟩
      · walk_at "wt"
        rw [if_neg (by decide +kernel)]
        exact ⟨_, _, rfl, g, r, s⟩
      rintro σ' H' ⟨o7, fv, rfl, g, r, s⟩
      walk_at "wt"
      exact q l fv _ nl' s g r
    | get i c y =>
      have ok1 : i < due.length := ok.1
      have ok2 : c < due.length := by obtain ⟨k, row, d1, -⟩ := ok.2; exact (List.getElem?_eq_some_iff.mp d1).1
      refine r_ixT (i := 0) ht rfl ⟨.inl ⟨rfl, _, .of hn⟩, r_ixT (i := 1) ht rfl (r_index hn on (nm_at (by omega : i < N.length)) ?_).2⟩
      refine ⟨dl, dv, rfl, .inl (.of hd), fun l nl' => ?_⟩
      have s := same_new (o := .lst dv) nl'
      have g : upd H l (.lst dv) l = some (.lst dv) := upd_same
      have r := rd.tk (Same.tk s)
      generalize upd H l (.lst dv) = H1 at s g r ⊢
      walk_at "wt"
      refine ⟨DuM a nl dl t l "get" i H (due), ?_, ?_⟩
      · walk_at "wt"
        rw [if_neg (by decide +kernel)]
        exact ⟨_, _, rfl, g, r, s⟩
      rintro σ' H' ⟨o7, fv, rfl, g, r, s⟩
      walk_at "wt"
      refine ⟨DuM a nl dl t l "get" i H (due), ?_, ?_⟩
      · walk_at "wt"
        rw [if_neg (by decide +kernel)]
        exact ⟨_, _, rfl, g, r, s⟩
      rintro σ' H' ⟨o7, fv, rfl, g, r, s⟩
      walk_at "wt"
      refine ⟨DuM a nl dl t l "get" i H (due), ?_, ?_⟩
      · walk_at "wt"
        rw [if_neg (by decide +kernel)]
        exact ⟨_, _, rfl, g, r, s⟩
      rintro σ' H' ⟨o7, fv, rfl, g, r, s⟩
      walk_at "wt"
      refine ⟨DuM a nl dl t l "get" i H (due), ?_, ?_⟩
      · walk_at "wt"
        rw [if_neg (by decide +kernel)]
        exact ⟨_, _, rfl, g, r, s⟩
      rintro σ' H' ⟨o7, fv, rfl, g, r, s⟩
      walk_at "wt"
      refine ⟨DuM a nl dl t l "get" i H (dueS S due (.get i c y)), ?_, ?_⟩
      · refine ⟨.inl ⟨rfl, _, .of (s _ _ hn)⟩, r_ixT (i := 2) (s _ _ ht) rfl (r_index (s _ _ hn) on (nm_at (by omega : c < N.length)) ?_).2⟩
        obtain ⟨k, row, d1, d2, d3⟩ := ok.2
        obtain ⟨v, ev, rv⟩ := rd.2 c _ d1
        obtain ⟨th, eth⟩ := at_lt d3
        have R' := R.same s
        obtain ⟨r1, er⟩ := R'.rowAt d2
        obtain ⟨ws, gr, rr⟩ := R'.cs k r1 row er d2
        obtain ⟨v2, ev2, rv2⟩ := rr.2 y th eth
        obtain ⟨u, rfl, hu⟩ := rv.tk (Same.tk s)
        refine r_ixL (s _ _ hd) ev ?_
        walk_at "wt"
        refine ⟨_, R'.getC, r_ixT (i := 1) hu rfl (r_ixL R'.cl (by rw [List.getElem?_map, er]; rfl) (r_ixT (i := 3) (s _ _ ht) rfl (r_ixL gr ev2 ?_)))⟩
        refine ⟨l, _, _, i, rfl, rfl, g, ixN_nat (by rw [r.1]; omega), ⟨_, _, rfl, upd_same, (r.tk (tk_put g)).set ?_, fun b o e => (upd_ne (ne_of_none e nl')).trans (s _ _ e)⟩⟩
        rw [getD_of d1]
        dsimp only
        rw [getD_of d2, getD_of eth]
        exact rv2.tk (tk_put g)
      rintro σ' H' ⟨o7, fv, rfl, g, r, s⟩
      walk_at "wt"
      exact q l fv _ nl' s g r
    | set c y j =>
      have ok1 : j < due.length := ok.1
      have ok2 : c < due.length := by obtain ⟨k, row, d1, -⟩ := ok.2; exact (List.getElem?_eq_some_iff.mp d1).1
      refine r_ixT (i := 0) ht rfl ⟨.inl ⟨rfl, _, .of hn⟩, r_ixT (i := 1) ht rfl (r_index hn on (nm_at (by omega : c < N.length)) ?_).2⟩
      refine ⟨dl, dv, rfl, .inl (.of hd), fun l nl' => ?_⟩
      have s := same_new (o := .lst dv) nl'
      have g : upd H l (.lst dv) l = some (.lst dv) := upd_same
      have r := rd.tk (Same.tk s)
      generalize upd H l (.lst dv) = H1 at s g r ⊢
      walk_at "wt"
      refine ⟨DuM a nl dl t l "set" c H (due), ?_, ?_⟩
      · walk_at "wt"
        rw [if_neg (by decide +kernel)]
        exact ⟨_, _, rfl, g, r, s⟩
      rintro σ' H' ⟨o7, fv, rfl, g, r, s⟩
      walk_at "wt"
      refine ⟨DuM a nl dl t l "set" c H (due), ?_, ?_⟩
      · walk_at "wt"
        rw [if_neg (by decide +kernel)]
        exact ⟨_, _, rfl, g, r, s⟩
      rintro σ' H' ⟨o7, fv, rfl, g, r, s⟩
      walk_at "wt"
      refine ⟨DuM a nl dl t l "set" c H (due), ?_, ?_⟩
      · walk_at "wt"
        rw [if_neg (by decide +kernel)]
        exact ⟨_, _, rfl, g, r, s⟩
      rintro σ' H' ⟨o7, fv, rfl, g, r, s⟩
      walk_at "wt"
      refine ⟨DuM a nl dl t l "set" c H (due), ?_, ?_⟩
      · walk_at "wt"
        rw [if_neg (by decide +kernel)]
        exact ⟨_, _, rfl, g, r, s⟩
      rintro σ' H' ⟨o7, fv, rfl, g, r, s⟩
      walk_at "wt"
      refine ⟨DuM a nl dl t l "set" c H (due), ?_, ?_⟩
      · walk_at "wt"
        rw [if_neg (by decide +kernel)]
        exact ⟨_, _, rfl, g, r, s⟩
      rintro σ' H' ⟨o7, fv, rfl, g, r, s⟩
      walk_at "wt"
      exact q l fv _ nl' s g r
    | tell i =>
      have ok : i < due.length := ok
      refine r_ixT (i := 0) ht rfl ⟨.inl ⟨rfl, _, .of hn⟩, r_ixT (i := 1) ht rfl (r_index hn on (nm_at (by omega : i < N.length)) ?_).2⟩
      refine ⟨dl, dv, rfl, .inl (.of hd), fun l nl' => ?_⟩
      have s := same_new (o := .lst dv) nl'
      have g : upd H l (.lst dv) l = some (.lst dv) := upd_same
      have r := rd.tk (Same.tk s)
      generalize upd H l (.lst dv) = H1 at s g r ⊢
      walk_at "wt"
      refine ⟨DuM a nl dl t l "tell" i H (due), ?_, ?_⟩
      · walk_at "wt"
        rw [if_neg (by decide +kernel)]
        exact ⟨_, _, rfl, g, r, s⟩
      rintro σ' H' ⟨o7, fv, rfl, g, r, s⟩
      walk_at "wt"
      refine ⟨DuM a nl dl t l "tell" i H (due), ?_, ?_⟩
      · walk_at "wt"
        rw [if_neg (by decide +kernel)]
        exact ⟨_, _, rfl, g, r, s⟩
      rintro σ' H' ⟨o7, fv, rfl, g, r, s⟩
      walk_at "wt"
      refine ⟨DuM a nl dl t l "tell" i H (due), ?_, ?_⟩
      · walk_at "wt"
        rw [if_neg (by decide +kernel)]
        exact ⟨_, _, rfl, g, r, s⟩
      rintro σ' H' ⟨o7, fv, rfl, g, r, s⟩
      walk_at "wt"
      refine ⟨DuM a nl dl t l "tell" i H (due), ?_, ?_⟩
      · walk_at "wt"
        rw [if_neg (by decide +kernel)]
        exact ⟨_, _, rfl, g, r, s⟩
      rintro σ' H' ⟨o7, fv, rfl, g, r, s⟩
      walk_at "wt"
      refine ⟨DuM a nl dl t l "tell" i H (due), ?_, ?_⟩
      · walk_at "wt"
        rw [if_neg (by decide +kernel)]
        exact ⟨_, _, rfl, g, r, s⟩
      rintro σ' H' ⟨o7, fv, rfl, g, r, s⟩
      walk_at "wt"
      exact q l fv _ nl' s g r
end

local macro_rules | `(tactic| walk_at "wt") => `(tactic| try simp only [↓x_var0, ↓x_varS, ↓x_c, ↓x_op, ↓x_un, ↓x_cb, ↓x_nil, ↓x_cons, ↓x_test, ↓x_b, ↓x_ex, ↓x_and, ↓x_or, ↓x_not, ↓x_andV, ↓x_orV, ↓x_notV, ↓x_tif, ↓x_chain, ↓x_menu, ↓x_menuI, ↓x_lst, ↓x_tup, ↓x_dnew, ↓x_callW, ↓x_callN, ↓x_seq, ↓x_next, ↓x_ret, ↓x_retN, ↓x_drop, ↓x_ifS, ↓x_asg, ↓x_name, ↓x_raise, ↓x_fld, ↓x_setF, ↓x_meth, ↓x_make, ↓x_sub, ↓r_min, ↓r_max, ↓x_yes, ↓x_for, ↓x_lock, ↓x_keys, ↓x_cut, ↓x_lc, ↓x_rng1, ↓x_rng2, ↓x_lst1, ↓x_itup, ↓x_rng3, ↓x_three, ↓x_lstg, ↓x_tupg, ↓x_adrS, ↓x_one, ↓x_two, ↓x_adr, ↓x_sl, ↓x_np, ↓x_pt, ↓x_int, ↓x_bm, ↓x_bm0, ↓x_consg, ↓x_nilg, ↓x_dget2, ↓x_dget1, ↓x_dget, ↓x_din, ↓x_dni, ↓x_dput, ↓x_dpop2, ↓r_isB, ↓r_notB, ↓x_enum, ↓x_zip, ↓x_str, ↓x_strE, ↓r_inS, ↓r_ninS, wipe, List.map_cons, List.map_nil, ↓x_isT, ↓r_isiII, ↓r_isiBB, ↓r_isiIB, ↓r_isiSS, ↓r_neNS, ↓r_neSN, ↓r_neNN, ↓r_eqNS, ↓r_eqSN, ↓r_eqNN, ↓r_eqIS, ↓r_neIS, ↓r_neSI, ↓r_neBS, ↓r_eqBB, ↓r_neBB, ↓x_start, ↓x_K, ↓x_start0, ↓r_i0, ↓r_i, ↓r_u, ↓r_addI, ↓r_addS, ↓r_mulI, ↓r_mulS, ↓r_eqI, ↓r_neI, ↓r_eqS, ↓r_neS, ↓r_absI, ↓r_intI, ↓r_intB, List.length_cons, List.length_nil, List.replicate, List.set_cons_zero, List.set_cons_succ, decide_eq_true_eq, Bool.not_eq_true', decide_eq_false_iff_not, if_true, if_false, Bool.false_eq_true, Bool.true_eq_false, ite_true, ite_false, Bool.not_true, Bool.not_false, c_div, n_ten, c_pow, not_true_eq_false, not_false_eq_true, decide_true, decide_false, true_and, and_true, and_self, true_or, or_true, Int.reduceLT, Int.reduceLE, Int.reduceMul, Int.reduceAdd, Int.reduceSub, Int.reducePow, Int.reduceNeg, Int.reduceDiv, Int.reduceMod, Nat.reducePow, Int.reduceToNat, Int.reduceEq, Int.reduceNe, Nat.reduceLT, Nat.reduceLeDiff, Nat.reduceAdd, ↓x_whole, ↓x_disp, ↓x_pnil, ↓x_pcons, ↓x_disp, ↓x_pnil, ↓x_pcons, ↓x_disp, ↓x_pnil, ↓x_pcons])
/-- a state of the law's last deed but one -/
def StM (a : A29) (nl dl t l D m : Addr) (H4 : Hp) (cr : List Addr) (rows : List (List Th)) (o8 : Option V) : L2.St → Hp → Prop := fun σ' H' => ∃ o9, σ' = [some (.ref a.s), some (.ref nl), some (.ref dl), some (.ref t), some (.ref l), some (.ref D), none, some (.ref m), o8, o9, none] ∧ CpM H4 D cr rows H'
/-- rows behind making -/
def rowsM (S : S29) : Sm → List (List Th)
  | .make _ n => S.cs ++ [List.replicate n .no]
  | _ => S.cs
theorem rowsM_len {S : S29} {due : List Th} {st : Sm} : (rowsM S st).length = (rowsS S due st).length := by
  cases st with
  | set c s j =>
    show S.cs.length = (match due.getD c .no with | .cell k => S.cs.set k _ | _ => S.cs).length
    cases due.getD c .no <;> first | rfl | exact (List.length_set ..).symm
  | _ => rfl
theorem drops_dp {K : PySem.W.Frag} {H : Hp} {l t u : Addr} (g : H l = some (.lst [.ref t, .ref u])) (a : H t = some (.tup [.str "drop", .int 1])) (b : H u = some (.tup [.str "drop", .int 2])) : Dp K H (.ref l) (.list [.tuple [.str "drop", .int 1], .tuple [.str "drop", .int 2]]) :=
  .lst (.of g) (.cons (.tup (.inl (.inl a)) (.cons (.str _) (.cons (.int _) .nil))) (.cons (.tup (.inl (.inl b)) (.cons (.str _) (.cons (.int _) .nil))) .nil))
theorem cut2 {x y : V} {r : List V} : cutV (x :: y :: r) none (some 2) = [x, y] := by
  unfold cutV
  rw [HT.sIx_none, show HT.sIx (x :: y :: r).length (x :: y :: r).length (some 2) = min 2 (x :: y :: r).length from HT.sIx_nat _ _ 2, List.drop_zero, Nat.sub_zero, List.length_cons, List.length_cons, show min 2 (r.length + 1 + 1) = 2 from by omega]
  rfl
theorem sm_one {N : List (List Nat)} {st : Sm} : (Sm.V N st)[1]? = some (nmV N st.at) := by cases st <;> rfl
theorem OkN.at {n : Nat} {st : Sm} (ok : OkN n st) : st.at < n := by
  cases st with
  | make i n => exact ok
  | copy i j => exact ok.1
  | get i c s => exact ok.1
  | set c s j => exact ok.1
  | _ => exact ok
theorem atI_neg {xs : List V} {v : V} (h : xs[xs.length - 1]? = some v) : atI xs (-1) = some v := by
  have hl := (List.getElem?_eq_some_iff.mp h).1
  unfold atI ixN
  rw [if_neg (by omega), if_pos (by omega)]
  show xs[((-1 : Int) + (xs.length : Int)).toNat]? = _
  rw [show ((-1 : Int) + (xs.length : Int)).toNat = xs.length - 1 from by omega]
  exact h
theorem deeds_head {st : Sm} : ∃ r, deedsD st = .drop 1 :: .drop 2 :: r := by cases st <;> exact ⟨_, rfl⟩
theorem deeds_len {S : S29} {due : List Th} {st : Sm} (ok : OkS S due st) (h : due.length ≤ 42) : (deedsD st).length ≤ 200 := by
  have ld : ∀ p h, (loadedD p h).length ≤ p + 2 := fun p h => loadedD_len
  have sd : ∀ p, (storedD p).length ≤ p + 2 := fun p => storedD_len
  have lt : ∀ {c k}, due[c]? = some (Th.cell k) → c < due.length := fun e => (List.getElem?_eq_some_iff.mp e).1
  cases st with
  | make i n =>
    have := sd i
    have : i < due.length := ok.1
    show ([De.drop 1, De.drop 2] ++ [De.make 1 n] ++ storedD i).length ≤ _
    simp only [List.length_append, List.length_cons, List.length_nil]
    omega
  | keep i n =>
    have := sd i
    have : i < due.length := ok
    show ([De.drop 1, De.drop 2] ++ [De.keep 1 n] ++ storedD i).length ≤ _
    simp only [List.length_append, List.length_cons, List.length_nil]
    omega
  | copy i j =>
    have := sd i
    have := ld j 1
    have : i < due.length := ok.1
    have : j < due.length := ok.2
    show ([De.drop 1, De.drop 2] ++ loadedD j 1 ++ storedD i).length ≤ _
    simp only [List.length_append, List.length_cons, List.length_nil]
    omega
  | drop i =>
    have := sd i
    have : i < due.length := ok
    show ([De.drop 1, De.drop 2] ++ [] ++ storedD i).length ≤ _
    simp only [List.length_append, List.length_cons, List.length_nil]
    omega
  | get i c s =>
    have := sd i
    have := ld c 1
    have : i < due.length := ok.1
    obtain ⟨k, row, d1, -⟩ := ok.2
    have := lt d1
    show ([De.drop 1, De.drop 2] ++ (loadedD c 1 ++ [De.take 1 1 s]) ++ storedD i).length ≤ _
    simp only [List.length_append, List.length_cons, List.length_nil]
    omega
  | set c s j =>
    have := ld j 1
    have := ld c 2
    have : j < due.length := ok.1
    obtain ⟨k, row, d1, -⟩ := ok.2
    have := lt d1
    show ([De.drop 1, De.drop 2] ++ loadedD j 1 ++ loadedD c 2 ++ [De.put 2 s 1]).length ≤ _
    simp only [List.length_append, List.length_cons, List.length_nil]
    omega
  | tell i =>
    have := ld i 1
    have : i < due.length := ok
    show ([De.drop 1, De.drop 2] ++ loadedD i 1 ++ [De.read 1]).length ≤ _
    simp only [List.length_append, List.length_cons, List.length_nil]
    omega
theorem OkS.ok {S : S29} {due : List Th} {st : Sm} (ok : OkS S due st) : OkN due.length st := by
  have lt : ∀ {c k}, due[c]? = some (Th.cell k) → c < due.length := fun e => (List.getElem?_eq_some_iff.mp e).1
  cases st with
  | make i n => exact ok.1
  | get i c s => exact ⟨ok.1, let ⟨_, _, d, _⟩ := ok.2; lt d⟩
  | set c s j => exact ⟨let ⟨_, _, d, _⟩ := ok.2; lt d, ok.1⟩
  | _ => exact ok
theorem rowsM_le {S : S29} {st : Sm} : (rowsM S st).length ≤ S.cs.length + 1 := by
  cases st with
  | make i n => exact Nat.le_of_eq (List.length_append ..)
  | _ => exact Nat.le_succ _
section
variable {P : Program} {w : World} {K : PySem.W.Frag} {mg : Str → Option Value} {base : Heap}
theorem f__law_stepped (T : Tx K mg) : Fn P w K mg base 5 "_law_stepped" ["_law_s", "_law_names_here", "_law_due_here", "_law_statement_here"] (sp_stepped29 K) := by
  have c__law_due := f__law_due (P := P) (w := w) (base := base) T
  have c_deeds_of := f_deeds_of (P := P) (w := w) (base := base) T
  have c__law_all := f__law_all (P := P) (w := w) (base := base) T
  refine T.mkFn 17 17 (d := d__law_stepped) (N := ["_law_s", "_law_names_here", "_law_due_here", "_law_statement_here", "_law_fresh", "_law_row", "_law_cell", "_law_deeds", "_law_here", "_law_held", "_law_k"]) (k := 4) rfl rfl rfl rfl rfl sc__law_stepped (fun _ _ _ _ _ _ us hl => match us, hl with | [_, _, _, _], _ => rfl) (fun vs H Q E h => ?len) (fun cdv A outer s H vs Q E hr h => ⟨_,
      (pss_cons (ps_set (i := 4) sc__law_stepped.nd rfl (Or.inl rfl) (pe_fn (takes_of rfl rfl rfl rfl) c__law_due (hr.mono (by decide)) (by rfl) (pa_cons (pv 0) (pa_cons (pv 1) (pa_cons (pv 2) (pa_cons (pv 3) pa_nil))))))
        (pss_cons (ps_setLc (i := 5) (own := [("_law_cell", 6)]) (g := gName 6) rfl sc__law_stepped.nd rfl rfl (sw_true rfl rfl rfl (by decide +kernel)) (pi_listK (K := K) rfl (pe_dget (hu_of hr) (pv 0) pe_str (fun _ _ => rfl))) (blkOk_by (own := [("_law_cell", 6)]) (N := ["_law_s", "_law_names_here", "_law_due_here", "_law_statement_here", "_law_fresh", "_law_row", "_law_cell", "_law_deeds", "_law_here", "_law_held", "_law_k"]) (sc := defScope s__law_stepped) (by decide +kernel)) (fun _ _ _ _ _ => (pg_name (i := 6) sc__law_stepped.nd rfl (Or.inl rfl))) (fun _ _ _ _ _ => pts_nil) (fun _ _ _ _ _ => (pe_callTy (call_listK (K := K) rfl) (by rfl) (T.free 29) (by decide +kernel) (pa_cons (pv 6) pa_nil))))
        (pss_cons (ps_set (i := 7) sc__law_stepped.nd rfl (Or.inl rfl) (pe_fn (takes_of rfl rfl rfl rfl) c_deeds_of (hr.mono (by decide)) (by rfl) (pa_cons (pv 1) (pa_cons (pv 3) pa_nil))))
        (pss_cut (ps_if (PW.pt (pw_or (pt_not (pt_val (pe_fn (takes_of rfl rfl rfl rfl) c__law_all (hr.mono (by decide)) (by rfl) (pa_cons (pv 0) (pa_cons (pv 7) pa_nil))))) (pw_or1 (pt_cmpR (op_neK (K := K) rfl hr.units) (pe_slice (sl_listK (K := K) rfl) (pv 7) po_none (po_some pe_int)) (pe_lst (pa_cons (pe_tup (pa_cons pe_str (pa_cons pe_int pa_nil))) (pa_cons (pe_tup (pa_cons pe_str (pa_cons pe_int pa_nil))) pa_nil))) (nomark _))))) (pss_one (ps_ret pe_non)) pss_nil)
        (pss_cut (ps_if (pt_cmpR (op_eqK (K := K) rfl hr.units) (pe_ix (ix_seqK (K := K) rfl) (pv 3) pe_int (fun _ _ => rfl)) pe_str (nomark _)) (pss_one (ps_expr (pe_bm PySem.F.plainAttrs_list PySem.F.slot_list_append PySem.F.type_list_append mt_append (pv 5) (pa_cons (pe_op op_gMul (pe_lst (pa_cons pe_non pa_nil)) (pe_ix (ix_seqK (K := K) rfl) (pv 3) pe_int (fun _ _ => rfl))) pa_nil)))) pss_nil)
        (pss_cut (ps_if (pt_cmpR (op_neK (K := K) rfl hr.units) (pe_callB (call_lenK (K := K) rfl) (by rfl) (T.free 23) PySem.boot_len (pa_cons (pe_dget (hu_of hr) (pv 0) pe_str (fun _ _ => rfl)) pa_nil)) (pe_callB (call_lenK (K := K) rfl) (by rfl) (T.free 23) PySem.boot_len (pa_cons (pv 5) pa_nil)) (nomark _)) (pss_one (ps_ret pe_non)) pss_nil)
        (pss_cons (ps_set (i := 8) sc__law_stepped.nd rfl (Or.inl rfl) (pe_bm PySem.F.plainAttrs_list PySem.F.slot_list_index PySem.F.type_list_index (mt_indexK (K := K) rfl) (pv 1) (pa_cons (pe_ix (ix_seqK (K := K) rfl) (pv 3) pe_int (fun _ _ => rfl)) pa_nil)))
        (pss_cut (ps_if (pt_cmpR (op_eqK (K := K) rfl hr.units) (pe_ix (ix_seqK (K := K) rfl) (pv 3) pe_int (fun _ _ => rfl)) pe_str (nomark _)) (pss_one (ps_if (PW.pt (pw_or (pt_cmpR (op_neK (K := K) rfl hr.units) (pe_ix (ix_seqK (K := K) rfl) (pv 7) (pe_un un_neg pe_int) (fun _ _ => rfl)) (pe_tup (pa_cons pe_str (pa_cons pe_int pa_nil))) (nomark _)) (pw_or1 (pt_cmpR (op_neK (K := K) rfl hr.units) (pe_ix (ix_seqK (K := K) rfl) (pe_dget (hu_of hr) (pv 0) pe_str (fun _ _ => rfl)) pe_int (fun _ _ => rfl)) (pe_ix (ix_seqK (K := K) rfl) (pv 2) (pv 8) (fun _ _ => rfl)) (nomark _))))) (pss_one (ps_ret pe_non)) pss_nil)) pss_nil)
        (pss_cut (ps_if (pt_cmpR (op_eqK (K := K) rfl hr.units) (pe_ix (ix_seqK (K := K) rfl) (pv 3) pe_int (fun _ _ => rfl)) pe_str (nomark _)) (pss_cons (ps_set (i := 9) sc__law_stepped.nd rfl (Or.inl rfl) (pe_ix (ix_seqK (K := K) rfl) (pv 2) (pe_bm PySem.F.plainAttrs_list PySem.F.slot_list_index PySem.F.type_list_index (mt_indexK (K := K) rfl) (pv 1) (pa_cons (pe_ix (ix_seqK (K := K) rfl) (pv 3) pe_int (fun _ _ => rfl)) pa_nil)) (fun _ _ => rfl)))
        (pss_one (ps_asg (pv 9) (pg_sub (pe_ix (ix_seqK (K := K) rfl) (pv 5) (pe_ix (ix_seqK (K := K) rfl) (pe_ix (ix_seqK (K := K) rfl) (pv 2) (pv 8) (fun _ _ => rfl)) pe_int (fun _ _ => rfl)) (fun _ _ => rfl)) (pe_ix (ix_seqK (K := K) rfl) (pv 3) pe_int (fun _ _ => rfl)) set_list)))) pss_nil)
        (pss_cons (ps_for (passes_of rfl) rfl (pi_range1 rfl (T.free 24) (pa_cons (pe_callB (call_lenK (K := K) rfl) (by rfl) (T.free 23) PySem.boot_len (pa_cons (pv 5) pa_nil)) pa_nil)) (pg_name (i := 10) sc__law_stepped.nd rfl (Or.inl rfl)) (pss_one (ps_if (PW.pt (pw_and (pt_cmp (pc_dnotin (hu_of hr) (pv 10) (pe_dget (hu_of hr) (pv 0) pe_str (fun _ _ => rfl)))) (pw_and1 (pt_cmpR (op_neK (K := K) rfl hr.units) (pe_ix (ix_seqK (K := K) rfl) (pe_dget (hu_of hr) (pv 0) pe_str (fun _ _ => rfl)) (pv 10) (fun _ _ => rfl)) (pe_ix (ix_seqK (K := K) rfl) (pv 5) (pv 10) (fun _ _ => rfl)) (nomark _))))) (pss_one (ps_ret pe_non)) pss_nil)))
        (pss_one (ps_ret (pv 4))))))))))))), ?rd⟩)
  case len => obtain ⟨_, _, _, _, _, _, _, _, _, _, _, rfl, _⟩ := h; rfl
  case rd =>
    obtain ⟨a, fk, S, nf, due, N, nl, dl, dv, st, t, rfl, R, F, fk', n1, n2, hn, hd, rd, ln, l42, on, ok, cl, ht, q⟩ := h
    have sz : 10000000 ≤ sizeLine := by rw [sizeLine_eq]; omega
    walk_at "wt"
    refine ⟨a, fk, S, due, N, nl, dl, dv, st, t, rfl, R, hn, hd, rd, ln, on, ok, ht, fun l fv H1 nl' s1 gl rl => ?_⟩
    walk_at "wt"
    have R1 := R.same s1
    refine ⟨_, R1.getC, a.cl, rfl, ⟨_, .of R1.cl⟩, lc_copy (fun _ => rfl) (fun v H Q q => ⟨v, rfl, q⟩) R1 (by omega) fun D cr H2 s2 nD C2 nc => ?_⟩
    have s02 := s1.trans s2
    have noH : ∀ b ∈ D :: cr, H1 b = none := fun b m => by
      rcases List.mem_cons.mp m with rfl | m
      · exact nD
      · exact nc b m
    walk_at "wt"
    refine ⟨nl, t, N, st, rfl, s02 _ _ hn, by omega, on, s02 _ _ ht, by rw [ln]; exact ok.ok, fun m ws H3 nm s3 gm Dm => ?_⟩
    have s03 := s02.trans s3
    have R3 := R.same s03
    have C3 := C2.same s3
    obtain ⟨S', e1, F', e3, e4, e5⟩ := F.all ok
    obtain ⟨r0, er⟩ := deeds_head (st := st)
    have dlen := deeds_len ok (by omega)
    have rlen := rowsM_len (S := S) (due := due) (st := st)
    have rle := rowsM_le (S := S) (st := st)
    have ownc : ∀ b ∈ D :: cr, b ∉ a.own := fun b m => R1.new (noH b m)
    have nmo : m ∉ a.own := (R.same s02).new nm
    refine ⟨fun σ' H' => ∃ a4 H4, R29 H4 a4 fk S' ∧ Stp H3 a H4 a4 ∧ H4 m = some (.lst ws) ∧ StM a nl dl t l D m H4 cr S.cs none σ' H', ?_, ?_⟩
    · refine ⟨a, fk, S, S', m, ws, _, rfl, R3, F.h3, nmo, gm, Dm, e1, by omega, fun a4 H4 R4 st4 => ?_⟩
      walk_at "wt"
      have C4 := C3.stp R3 st4 ownc
      have gm4 := st4.keep _ _ nmo gm
      have Dm4 : DeL H4 ws (deedsD st) := ⟨Dm.1, fun i d e => let ⟨t, x, y⟩ := Dm.2 i d e; ⟨t, x, R3.tk st4 _ _ y⟩⟩
      obtain ⟨t1, x1, y1⟩ := Dm4.2 0 (.drop 1) (by rw [er]; rfl)
      obtain ⟨t2, x2, y2⟩ := Dm4.2 1 (.drop 2) (by rw [er]; rfl)
      obtain ⟨wr, ew⟩ : ∃ wr, ws = .ref t1 :: .ref t2 :: wr := by
        cases ws with
        | nil => cases x1
        | cons x r =>
          cases r with
          | nil => cases x2
          | cons y r =>
            cases x1
            cases x2
            exact ⟨r, rfl⟩
      refine ⟨m, ws, rfl, .of gm4, fun p np => ?_⟩
      rw [ew, cut2]
      dsimp only
      have C5 := (CpM.init C4).same (same_new (o := .lst [.ref t1, .ref t2]) np)
      have hp : upd H4 p (.lst [.ref t1, .ref t2]) p = some (.lst [.ref t1, .ref t2]) := upd_same
      have y1' := (same_new (o := .lst [.ref t1, .ref t2]) np) _ _ y1
      have y2' := (same_new (o := .lst [.ref t1, .ref t2]) np) _ _ y2
      generalize upd H4 p (.lst [.ref t1, .ref t2]) = H5 at C5 hp y1' y2' ⊢
      refine ⟨by omega, fun p1 m1 => ⟨by omega, fun p2 m2 => ⟨by omega, fun p3 m3 => ?_⟩⟩⟩
      have q1 := same_new (o := .tup [.str "drop", .int 1]) m1
      have q2 := same_new (o := .tup [.str "drop", .int 2]) m2
      have q3 := same_new (o := .lst [.ref p1, .ref p2]) m3
      have q13 := (q1.trans q2).trans q3
      refine r_neSame (drops_dp (q13 _ _ hp) (q13 _ _ y1') (q13 _ _ y2')) (drops_dp upd_same (q3 _ _ (q2 _ _ upd_same)) (q3 _ _ upd_same)) (by decide +kernel) ?_
      walk_at "wt"
      exact ⟨a4, H4, R4, st4, by rw [← ew]; exact gm4, _, rfl, C5.same q13⟩
    rintro σ' H' ⟨a4, H4, R4, st4, gm4, o9, rfl, M⟩
    have ht4 := R3.tk st4 _ _ (s03 _ _ ht)
    have C4 := C3.stp R3 st4 ownc
    have ownc4 : ∀ b ∈ D :: cr, b ∉ a4.own := fun b m => by
      rcases List.mem_cons.mp m with rfl | m
      · exact st4.off (ownc _ List.mem_cons_self) C3.g
      · obtain ⟨vs, e⟩ := C3.live m
        exact st4.off (ownc _ (List.mem_cons_of_mem _ m)) e
    have live1 : ∀ {b o}, H1 b = some o → b ∉ D :: cr := fun {b o} e m => by
      rw [noH b m] at e
      cases e
    have okn : OkN N.length st := by rw [ln]; exact ok.ok
    have sil := okn.at
    have e4s := st4.s
    walk_at "wt"
    refine ⟨StM a nl dl t l D m H4 cr (rowsM S st) none, ?_, ?_⟩
    · have ht' := M.tk _ _ ht4
      cases st with
      | make i n =>
        refine r_ixT (i := 0) ht' rfl ?_
        walk_at "wt"
        obtain ⟨cr', c', o', k', t'⟩ := id M
        have n8 : n ≤ 8 := ok.2
        refine ⟨.inl ⟨rfl, _, .of c'.g⟩, by omega, fun p np => r_ixT (i := 2) ((same_new np) _ _ ht') rfl ⟨[.non], upd_same, by omega, by omega, ?_, fun r nr => ?_⟩⟩
        · show 1 * _ ≤ _
          omega
        rw [rep_none]
        refine ⟨D, _, _, rfl, rfl, (c'.same ((same_new np).trans (same_new nr))).g, ?_, ⟨_, rfl, M.app np nr c' o'⟩⟩
        rw [List.length_map, c'.len]
        omega
      | _ =>
        refine r_ixT (i := 0) ht' rfl ?_
        walk_at "wt"
        rw [if_neg (by decide +kernel)]
        exact ⟨_, rfl, M⟩
    clear M
    rintro σ' H' ⟨o9, rfl, M⟩
    walk_at "wt"
    refine ⟨StM a nl dl t l D m H4 cr (rowsM S st) none, ?_, ?_⟩
    · obtain ⟨cr', c', o', k', t'⟩ := id M
      have R' := M.R R4 ownc4
      have gC := R'.getC
      rw [e4s] at gC
      refine ⟨_, gC, r_lenL R'.cl (r_lenL c'.g ?_)⟩
      rw [List.length_map, List.length_map, R'.len, c'.len, e3, rlen]
      walk_at "wt"
      exact ⟨_, rfl, M⟩
    clear M
    rintro σ' H' ⟨o9, rfl, M⟩
    walk_at "wt"
    have hn4 := st4.keep _ _ n1 (s03 _ _ hn)
    have hd4 := st4.keep _ _ n2 (s03 _ _ hd)
    have nlD : nl ∉ D :: cr := live1 (s1 _ _ hn)
    have dlD : dl ∉ D :: cr := live1 (s1 _ _ hd)
    have lD : l ∉ D :: cr := live1 gl
    have mD : m ∉ D :: cr := fun z => by
      rcases List.mem_cons.mp z with h | h
      · rw [h, C2.g] at nm
        cases nm
      · obtain ⟨vs, e⟩ := C2.live h
        rw [nm] at e
        cases e
    have rd4 := (rd.tk (Same.tk s03)).tk (R3.tk st4)
    refine ⟨.inl ⟨rfl, _, .of (M.get nlD hn4)⟩, r_ixT (i := 1) (M.tk _ _ ht4) sm_one (r_index (M.get nlD hn4) on (nm_at sil) ?_).2⟩
    refine ⟨StM a nl dl t l D m H4 cr (rowsM S st) (some (.int (st.at : Int))), ?_, ?_⟩
    · have ht' := M.tk _ _ ht4
      have gm' := M.get mD gm4
      have R' := M.R R4 ownc4
      cases st with
      | tell i =>
        walk_at "wt"
        refine r_ixT (i := 0) ht' rfl ?_
        walk_at "wt"
        have il : i < due.length := ok
        have last : (deedsD (.tell i))[(deedsD (.tell i)).length - 1]? = some (.read 1) := by
          show ([De.drop 1, De.drop 2] ++ loadedD i 1 ++ [De.read 1])[([De.drop 1, De.drop 2] ++ loadedD i 1 ++ [De.read 1]).length - 1]? = _
          rw [List.length_append, show ([De.read 1] : List De).length = 1 from rfl, Nat.add_sub_cancel, List.getElem?_concat_length]
        obtain ⟨tq, xq, yq⟩ := Dm.2 _ _ last
        have yq' := M.tk _ _ (R3.tk st4 _ _ yq)
        refine .inl ⟨m, ws, _, _, rfl, rfl, .of gm', atI_neg (by rw [Dm.1]; exact xq), ⟨by omega, fun p np => ?_⟩⟩
        have sp := same_new (o := .tup [.str "read", .int 1]) np
        refine r_neSame (.tup (.inl (.inl (sp _ _ yq'))) (.cons (.str _) (.cons (.int _) .nil))) (.tup (.inl (.inl upd_same)) (.cons (.str _) (.cons (.int _) .nil))) (d := .tuple [.str "read", .int 1]) (by decide +kernel) ?_
        walk_at "wt"
        have M2 := M.same sp
        have R2' := M2.R R4 ownc4
        obtain ⟨th, eth⟩ := at_lt il
        obtain ⟨vs, v, g, ev, rv⟩ := R2'.hand ((e5 i rfl).trans eth)
        obtain ⟨v2, ev2, rv2⟩ := rd4.2 i th eth
        have gH := R2'.getH
        rw [e4s] at gH
        refine ⟨_, gH, r_ixL (i := 1) g ev (r_ixL (M2.get dlD hd4) ev2 (r_neTh rv (rv2.tk M2.tk) ?_))⟩
        walk_at "wt"
        exact ⟨_, rfl, M2⟩
      | _ =>
        walk_at "wt"
        refine r_ixT (i := 0) ht' rfl ?_
        walk_at "wt"
        rw [if_neg (by decide +kernel)]
        exact ⟨_, rfl, M⟩
    clear M
    rintro σ' H' ⟨o9, rfl, M⟩
    walk_at "wt"
    refine ⟨StM a nl dl t l D m H4 cr (rowsS S due st) (some (.int (st.at : Int))), ?_, ?_⟩
    · have ht' := M.tk _ _ ht4
      cases st with
      | set c y j =>
        refine r_ixT (i := 0) ht' rfl ?_
        walk_at "wt"
        obtain ⟨jl, k, row, d1, d2, d3⟩ := ok
        have hn' := M.get nlD hn4
        have hd' := M.get dlD hd4
        obtain ⟨th, eth⟩ := at_lt jl
        obtain ⟨v, ev, rv⟩ := rd4.2 j th eth
        obtain ⟨v2, ev2, rv2⟩ := rd4.2 c _ d1
        obtain ⟨u, rfl, hu⟩ := rv2.tk M.tk
        obtain ⟨cr', c', o', k', t'⟩ := id M
        have kl := (List.getElem?_eq_some_iff.mp d2).1
        obtain ⟨r, er2⟩ := at_lt (l := cr') (i := k) (by rw [c'.len]; exact kl)
        obtain ⟨vs, gr, rr⟩ := c'.rows k r row er2 d2
        have es : rowsS S due (.set c y j) = (rowsM S (.set c y j)).set k (row.set y th) := by
          show (match due.getD c .no with | .cell k => S.cs.set k ((S.cs.getD k []).set y (due.getD j .no)) | _ => S.cs) = S.cs.set k (row.set y th)
          rw [getD_of d1]
          dsimp only
          rw [getD_of d2, getD_of eth]
        rw [es]
        refine ⟨.inl ⟨rfl, _, .of hn'⟩, r_ixT (i := 3) ht' rfl (r_index hn' on (nm_at (by omega : j < N.length)) (r_ixL hd' ev ?_)).2⟩
        refine r_ixL (i := c) hd' ev2 (r_ixT (i := 1) hu rfl (r_ixL c'.g (by rw [List.getElem?_map, er2]; rfl) (r_ixT (i := 2) ht' rfl ?_)))
        exact ⟨r, vs, _, y, rfl, rfl, gr, ixN_nat (by rw [rr.1]; exact d3), ⟨_, rfl, M.set c' o' er2 d2 gr rr (rv.tk M.tk)⟩⟩
      | _ =>
        refine r_ixT (i := 0) ht' rfl ?_
        walk_at "wt"
        rw [if_neg (by decide +kernel)]
        exact ⟨_, rfl, M⟩
    clear M
    rintro σ' H' ⟨o9, rfl, M⟩
    walk_at "wt"
    obtain ⟨cr', c', o', k', t'⟩ := id M
    have R' := M.R R4 ownc4
    have gC := R'.getC
    have gF := R'.getF
    rw [e4s] at gC gF
    refine r_lenL c'.g ⟨_, rfl, by omega, by rw [List.length_map, c'.len]; omega, ?_⟩
    rw [List.length_map, c'.len, Int.toNat_natCast]
    refine forW_range (fun i σ Hx => ∃ o10, Hx = H' ∧ σ = [some (V.ref a.s), some (V.ref nl), some (V.ref dl), some (V.ref t), some (V.ref l), some (V.ref D), none, some (V.ref m), some (V.int ↑st.at), o9, o10]) ⟨_, rfl, rfl⟩ ?_ ?_
    · rintro i σ Hx hi ⟨o10, rfl, rfl⟩
      walk_at "wt"
      rw [Int.zero_add]
      refine ⟨_, gF, a4.fl, _, rfl, dget_i R'.fl, ?_⟩
      rw [fk' i]
      by_cases c : i < nf
      · rw [decide_eq_true c]
        walk_at "wt"
        exact ⟨_, rfl⟩
      · rw [decide_eq_false c]
        walk_at "wt"
        obtain ⟨ts, ets⟩ := at_lt hi
        have es' : S'.cs[i]? = some ts := (e4 i (by omega)).trans ets
        obtain ⟨r1, er1⟩ := R'.rowAt es'
        obtain ⟨vs1, g1, q1⟩ := R'.cs i r1 ts er1 es'
        obtain ⟨r2, er2⟩ := at_lt (l := cr') (i := i) (by rw [c'.len]; exact hi)
        obtain ⟨vs2, g2, q2⟩ := c'.rows i r2 ts er2 ets
        refine ⟨_, gC, r_ixL R'.cl (by rw [List.getElem?_map, er1]; rfl) (r_ixL c'.g (by rw [List.getElem?_map, er2]; rfl) ?_)⟩
        refine r_neSame (Reps.dp g1 q1) (Reps.dp g2 q2) ((ShK.lst ths_sh).ok (by decide)) ?_
        walk_at "wt"
        exact ⟨_, rfl⟩
    · rintro σ Hx ⟨o10, rfl, rfl⟩
      walk_at "wt"
      have l3 := (s2.trans s3) _ _ gl
      have lo : l ∉ a.own := R.new nl'
      have st14 := (Stp.same s03).trans st4
      refine q a4 S' l fv Hx R' ⟨st14.own, fun b o nb e => M.get (live1 (s1 _ _ e)) (st14.keep _ _ nb e), st14.s, st14.f⟩ F' (by omega) (st4.off lo l3) nl' (M.get lD (st4.keep _ _ lo l3)) (((rl.tk (Same.tk (s2.trans s3))).tk (R3.tk st4)).tk M.tk)
end

local macro_rules | `(tactic| walk_at "wt") => `(tactic| try simp only [↓x_var0, ↓x_varS, ↓x_c, ↓x_op, ↓x_un, ↓x_cb, ↓x_nil, ↓x_cons, ↓x_test, ↓x_b, ↓x_ex, ↓x_and, ↓x_or, ↓x_not, ↓x_andV, ↓x_orV, ↓x_notV, ↓x_tif, ↓x_chain, ↓x_menu, ↓x_menuI, ↓x_lst, ↓x_tup, ↓x_dnew, ↓x_callW, ↓x_callN, ↓x_seq, ↓x_next, ↓x_ret, ↓x_retN, ↓x_drop, ↓x_ifS, ↓x_asg, ↓x_name, ↓x_raise, ↓x_fld, ↓x_setF, ↓x_meth, ↓x_make, ↓x_sub, ↓r_min, ↓r_max, ↓x_yes, ↓x_for, ↓x_lock, ↓x_keys, ↓x_cut, ↓x_lc, ↓x_rng1, ↓x_rng2, ↓x_lst1, ↓x_itup, ↓x_rng3, ↓x_three, ↓x_lstg, ↓x_tupg, ↓x_adrS, ↓x_one, ↓x_two, ↓x_adr, ↓x_sl, ↓x_np, ↓x_pt, ↓x_int, ↓x_bm, ↓x_bm0, ↓x_consg, ↓x_nilg, ↓x_dget2, ↓x_dget1, ↓x_dget, ↓x_din, ↓x_dni, ↓x_dput, ↓x_dpop2, ↓r_isB, ↓r_notB, ↓x_enum, ↓x_zip, ↓x_str, ↓x_strE, ↓r_inS, ↓r_ninS, wipe, List.map_cons, List.map_nil, ↓x_isT, ↓r_isiII, ↓r_isiBB, ↓r_isiIB, ↓r_isiSS, ↓r_neNS, ↓r_neSN, ↓r_neNN, ↓r_eqNS, ↓r_eqSN, ↓r_eqNN, ↓r_eqIS, ↓r_neIS, ↓r_neSI, ↓r_neBS, ↓r_eqBB, ↓r_neBB, ↓x_start, ↓x_K, ↓x_start0, ↓r_i0, ↓r_i, ↓r_u, ↓r_addI, ↓r_addS, ↓r_mulI, ↓r_mulS, ↓r_eqI, ↓r_neI, ↓r_eqS, ↓r_neS, ↓r_absI, ↓r_intI, ↓r_intB, List.length_cons, List.length_nil, List.replicate, List.set_cons_zero, List.set_cons_succ, decide_eq_true_eq, Bool.not_eq_true', decide_eq_false_iff_not, if_true, if_false, Bool.false_eq_true, Bool.true_eq_false, ite_true, ite_false, Bool.not_true, Bool.not_false, c_div, n_ten, c_pow, not_true_eq_false, not_false_eq_true, decide_true, decide_false, true_and, and_true, and_self, true_or, or_true, Int.reduceLT, Int.reduceLE, Int.reduceMul, Int.reduceAdd, Int.reduceSub, Int.reducePow, Int.reduceNeg, Int.reduceDiv, Int.reduceMod, Nat.reducePow, Int.reduceToNat, Int.reduceEq, Int.reduceNe, Nat.reduceLT, Nat.reduceLeDiff, Nat.reduceAdd, ↓x_whole, ↓x_disp, ↓x_pnil, ↓x_pcons, ↓x_disp, ↓x_pnil, ↓x_pcons, ↓x_disp, ↓x_pnil, ↓x_pcons, ↓x_disp, ↓x_pnil, ↓x_pcons])
/-! ## names, each once -/
theorem Once.take {N : List (List Nat)} {k : Nat} (o : Once N) : Once (N.take k) := fun i j x a b => by
  rw [List.getElem?_take] at a b
  split at a
  · split at b
    · exact o i j x a b
    · cases b
  · cases a
def N1 (b : List Nat) (a : Nat) : List (List Nat) := (List.range 26).map fun i => b.take a ++ [97 + i] ++ b.drop a
theorem N1_at {b : List Nat} {a i : Nat} {x : List Nat} (h : (N1 b a)[i]? = some x) : i < 26 ∧ x = b.take a ++ [97 + i] ++ b.drop a := by
  unfold N1 at h
  have hl := (List.getElem?_eq_some_iff.mp h).1
  rw [List.length_map, List.length_range] at hl
  rw [List.getElem?_map, List.getElem?_range hl] at h
  exact ⟨hl, (Option.some.inj h).symm⟩
theorem N1_len {b : List Nat} {a : Nat} : (N1 b a).length = 26 := by
  unfold N1
  rw [List.length_map, List.length_range]
theorem N1_one {b : List Nat} {a : Nat} : ∀ x ∈ N1 b a, x.length = b.length + 1 := fun x m => by
  obtain ⟨i, -, rfl⟩ := List.mem_map.mp m
  rw [List.length_append, List.length_append, List.length_take, List.length_drop]
  show _ + 1 + _ = _
  omega
theorem once_N1 {b : List Nat} {a : Nat} : Once (N1 b a) := fun i j x h1 h2 => by
  obtain ⟨-, e1⟩ := N1_at h1
  obtain ⟨-, e2⟩ := N1_at h2
  have e := e1.symm.trans e2
  have e := List.append_cancel_right e
  have e := List.append_cancel_left e
  have := (List.cons.inj e).1
  omega
theorem once_map {N : List (List Nat)} {y : List Nat} (o : Once N) : Once (N.map (· ++ y)) := fun i j x a b => by
  rw [List.getElem?_map] at a b
  cases e1 : N[i]? with
  | none => rw [e1] at a; cases a
  | some u =>
    cases e2 : N[j]? with
    | none => rw [e2] at b; cases b
    | some v =>
      rw [e1] at a
      rw [e2] at b
      have e := (Option.some.inj a).trans (Option.some.inj b).symm
      have e := List.append_cancel_right e
      subst e
      exact o i j u e1 e2
theorem once_app {N M : List (List Nat)} {k l : Nat} (o : Once N) (p : Once M) (h1 : ∀ x ∈ N, x.length = k) (h2 : ∀ x ∈ M, x.length = l) (ne : k ≠ l) : Once (N ++ M) := fun i j x a b => by
  have key : ∀ {i : Nat} {x}, (N ++ M)[i]? = some x → (i < N.length ∧ N[i]? = some x ∧ x.length = k) ∨ (N.length ≤ i ∧ M[i - N.length]? = some x ∧ x.length = l) := fun {i x} h => by
    by_cases c : i < N.length
    · rw [List.getElem?_append_left c] at h
      exact .inl ⟨c, h, h1 x (List.mem_of_getElem? h)⟩
    · rw [List.getElem?_append_right (by omega)] at h
      exact .inr ⟨by omega, h, h2 x (List.mem_of_getElem? h)⟩
  rcases key a with ⟨a1, a2, a3⟩ | ⟨a1, a2, a3⟩ <;> rcases key b with ⟨b1, b2, b3⟩ | ⟨b1, b2, b3⟩
  · exact o i j x a2 b2
  · omega
  · omega
  · have := p _ _ x a2 b2
    omega
def N2 (b : List Nat) (a : Nat) : List (List Nat) := if b.length + 1 < 7 then (N1 b a).map (· ++ [97, 98]) else []
theorem once_N {b : List Nat} {a : Nat} : Once (N1 b a ++ N2 b a) := by
  refine once_app (k := b.length + 1) (l := b.length + 3) once_N1 ?_ N1_one ?_ (by omega)
  · unfold N2
    split
    · exact once_map once_N1
    · exact fun i j x e => by cases e
  · unfold N2
    split
    · intro x m
      obtain ⟨y, my, rfl⟩ := List.mem_map.mp m
      rw [List.length_append, N1_one y my]
      rfl
    · exact fun x m => (List.not_mem_nil m).elim
def sp_names29 (K : PySem.W.Frag) : Sp := fun vs H Q _ => ∃ (s : Addr) (ns : List Int), vs = [.ref s] ∧ SqL K H s (ns.map V.int) ∧ ∀ (l : Addr) (N : List (List Nat)) (H' : Hp), H l = none → Same H H' → H' l = some (.lst (SgL N)) → Once N → 0 < N.length → N.length ≤ 42 → (∀ x ∈ N, ∀ c ∈ x, c < 128) → Q (.ref l) H'
theorem merge_kd {x y z : V} : mergeK [] (kdK x y z) = kdK x y z := by
  have h1 : ¬ (.inr "hands" : Key) = .inr "cells" := by decide +kernel
  have h2 : ¬ (.inr "hands" : Key) = .inr "frames" := by decide +kernel
  have h3 : ¬ (.inr "cells" : Key) = .inr "frames" := by decide +kernel
  simp [mergeK, kdK, putK, h1, h2, h3]
def fkN (n : Nat) : List (Key × V) := (List.range n).map fun k : Nat => ((.inl (k : Int) : Key), V.bl true)
theorem fkN_val {n k : Nat} : (valV (fkN n) (.inl (k : Int) : Key)).isSome = decide (k < n) := by
  unfold valV fkN
  rw [Option.isSome_map, Bool.eq_iff_iff, List.find?_isSome, decide_eq_true_iff]
  constructor
  · rintro ⟨x, m, e⟩
    obtain ⟨i, mi, rfl⟩ := List.mem_map.mp m
    have := List.mem_range.mp mi
    have e := of_decide_eq_true e
    have e : (.inl (i : Int) : Key) = .inl (k : Int) := e
    injection e with e
    omega
  · intro h
    exact ⟨_, List.mem_map.mpr ⟨k, List.mem_range.mpr h, rfl⟩, decide_eq_true rfl⟩
theorem fkN_put {n : Nat} : putK (fkN n) (.inl (n : Int) : Key) (.bl true) = fkN (n + 1) := by
  unfold putK
  rw [if_neg]
  · unfold fkN
    rw [List.range_succ, List.map_append]
    rfl
  · intro h
    obtain ⟨x, m, e⟩ := List.any_eq_true.mp h
    obtain ⟨i, mi, rfl⟩ := List.mem_map.mp m
    have := List.mem_range.mp mi
    have e := of_decide_eq_true e
    have e : (.inl (i : Int) : Key) = .inl (n : Int) := e
    injection e with e
    omega
theorem names_dp {K : PySem.W.Frag} {H : Hp} : ∀ {N : List (List Nat)}, DpAll K H (SgL N) (N.map fun x => PyData.str (Sg x))
  | [] => .nil
  | x :: r => .cons (.str _) names_dp
theorem names_sh {N : List (List Nat)} (h : ∀ x ∈ N, ∀ c ∈ x, c < 128) : SeqAt.shaped (.list (N.map fun x => PyData.str (Sg x))) = true := by
  refine (ShK.lst (k := 0) fun z m => ?_).ok (by decide)
  obtain ⟨x, mx, rfl⟩ := List.mem_map.mp m
  refine ⟨?_, by simp [PyData.depth]⟩
  simp only [PyData.canLay0]
  unfold PyData.strOk
  rw [← Array.all_toList]
  refine List.all_eq_true.mpr fun c mc => decide_eq_true ?_
  have := h x mx c mc
  omega
theorem R29.setF {H : Hp} {a : A29} {fk fk' : List (Key × V)} {S : S29} (R : R29 H a fk S) : R29 (upd H a.fl (.dK fk')) a fk' S := by
  obtain ⟨⟨n1, n2, n3, n4⟩, ⟨n5, n6, n7⟩, ⟨n8, n9⟩, n10, n11⟩ := R.ne
  have kk : Tk H (upd H a.fl (.dK fk')) := R.tk (Stp.put (by simp [A29.own]))
  exact ⟨R.nd, (upd_ne n3).trans R.ks, let ⟨vs, g, r⟩ := R.hs; ⟨vs, (upd_ne n6).trans g, r.tk kk⟩, (upd_ne n8).trans R.cl, upd_same, R.len, fun i r ts e1 e2 => let ⟨vs, g, q⟩ := R.cs i r ts e1 e2; ⟨vs, (upd_ne fun z => n10 (by rw [← z]; exact List.mem_of_getElem? e1)).trans g, q.tk kk⟩⟩
theorem Reps.drop {H : Hp} {vs : List V} {ts : List Th} {k : Nat} (h : Reps H vs ts) : Reps H (vs.drop k) (ts.drop k) := by
  refine ⟨by rw [List.length_drop, List.length_drop, h.1], fun i t e => ?_⟩
  rw [List.getElem?_drop] at e ⊢
  exact h.2 _ t e
def sp_law (K : PySem.W.Frag) : Sp := fun vs H Q _ => ∃ (a : Addr) (ns : List Int), vs = [.ref a] ∧ SqL K H a (ns.map V.int) ∧ ns.length ≤ 63 ∧ ∀ H', Q (.bl true) H'
theorem low_N1 {b : List Nat} {a : Nat} (h : ∀ c ∈ b, c < 128) : ∀ x ∈ N1 b a, ∀ c ∈ x, c < 128 := fun x m c mc => by
  obtain ⟨i, mi, rfl⟩ := List.mem_map.mp m
  have hi := List.mem_range.mp mi
  rcases List.mem_append.mp mc with mc | mc
  · rcases List.mem_append.mp mc with mc | mc
    · exact h c (List.mem_of_mem_take mc)
    · rw [List.mem_singleton.mp mc]
      omega
  · exact h c (List.mem_of_mem_drop mc)
theorem low_N {b : List Nat} {a : Nat} (h : ∀ c ∈ b, c < 128) : ∀ x ∈ N1 b a ++ N2 b a, ∀ c ∈ x, c < 128 := fun x m c mc => by
  rcases List.mem_append.mp m with m | m
  · exact low_N1 h x m c mc
  · unfold N2 at m
    split at m
    · obtain ⟨y, my, rfl⟩ := List.mem_map.mp m
      rcases List.mem_append.mp mc with mc | mc
      · exact low_N1 h y my c mc
      · rcases List.mem_cons.mp mc with rfl | mc
        · decide
        · rw [List.mem_singleton.mp mc]
          decide
    · exact (List.not_mem_nil m).elim
theorem N2_len {b : List Nat} {a : Nat} : (N2 b a).length ≤ 26 := by
  unfold N2
  split
  · rw [List.length_map, N1_len]
    exact Nat.le_refl _
  · exact Nat.zero_le _
def abcL : List Nat := (List.range 26).map (97 + ·)
theorem abc_at {i : Nat} (h : i < 26) : abcL[i]? = some (97 + i) := by
  unfold abcL
  rw [List.getElem?_map, List.getElem?_range h]
  rfl
theorem ones_len : ∀ {bs : List (List Nat)}, (∀ x ∈ bs, x.length = 1) → (bs.map List.length).sum = bs.length
  | [], _ => rfl
  | b :: r, h => by
    rw [List.map_cons, List.sum_cons, h b List.mem_cons_self, ones_len fun x m => h x (List.mem_cons_of_mem _ m), List.length_cons]
    omega
theorem joinE : ∀ {bs : List (List Nat)}, TL.joinL [] bs = bs.flatten
  | [] => rfl
  | [p] => (List.append_nil p).symm
  | p :: q :: r => by
    show p ++ ([] ++ TL.joinL [] (q :: r)) = _
    rw [joinE (bs := q :: r), List.nil_append]
    rfl
theorem SgL_snoc {ps : List (List Nat)} {p : List Nat} : SgL (ps ++ [p]) = SgL ps ++ [V.str (Sg p)] := by
  unfold SgL
  rw [List.map_append]
  rfl
theorem cutV_to {xs : List V} {k : Nat} : cutV xs none (some (k : Int)) = xs.take k := by
  unfold cutV
  rw [HT.sIx_none, HT.sIx_nat, List.drop_zero, Nat.sub_zero]
  by_cases h : k ≤ xs.length
  · rw [Nat.min_eq_left h]
  · rw [Nat.min_eq_right (by omega), List.take_length, List.take_of_length_le (by omega)]
theorem SgL_take {ps : List (List Nat)} {k : Nat} : (SgL ps).take k = SgL (ps.take k) := List.map_take.symm
theorem SgL_cat {ps qs : List (List Nat)} : SgL (ps ++ qs) = SgL ps ++ SgL qs := List.map_append
theorem abc_tl : TL.tl ("abcdefghijklmnopqrstuvwxyz" : Str) = (List.range 26).map (97 + ·) := by decide +kernel
theorem abcS : ("abcdefghijklmnopqrstuvwxyz" : Str) = Sg abcL := (Sg_of _).trans (by rw [abc_tl]; rfl)
section
variable {P : Program} {w : World} {K : PySem.W.Frag} {mg : Str → Option Value} {base : Heap}
theorem f__law_names (T : Tx K mg) : Fn P w K mg base 2 "_law_names" ["_law_script"] (sp_names29 K) := by
  have c__law_next := f__law_next (P := P) (w := w) (base := base) T
  have c__law_cell_at := f__law_cell_at (P := P) (w := w) (base := base) T
  refine T.mkFn 8 8 (d := d__law_names) (N := ["_law_script", "_law_some", "_law_seed", "_law_base", "_law_k", "_law_at", "_law_names_here", "_law_letter", "_law_one"]) (k := 1) rfl rfl rfl rfl rfl sc__law_names (fun _ _ _ _ _ _ us hl => match us, hl with | [_], _ => rfl) (fun vs H Q E h => ?len) (fun cdv A outer s H vs Q E hr h => ⟨_,
      (pss_cons (ps_set (i := 1) sc__law_names.nd rfl (Or.inr rfl) pe_str)
        (pss_cons (ps_set (i := 2) sc__law_names.nd rfl (Or.inr rfl) (pe_fn (takes_of rfl rfl rfl rfl) c__law_next (hr.mono (by decide)) (by rfl) (pa_cons (pe_fn (takes_of rfl rfl rfl rfl) c__law_cell_at (hr.mono (by decide)) (by rfl) (pa_cons (pv 0) (pa_cons pe_int pa_nil))) pa_nil)))
        (pss_cons (ps_set (i := 3) sc__law_names.nd rfl (Or.inr rfl) (pe_bm PySem.F.plainAttrs_str PySem.F.slot_str_join PySem.F.type_str_join (mt_joinK (K := K) rfl) pe_str (pa_cons (pe_lc (own := [("_law_k", 4)]) (g := gName 4) rfl sc__law_names.nd (pi_range1 rfl (T.free 24) (pa_cons (pe_op op_gAdd pe_int (pe_op op_mod (pv 2) pe_int)) pa_nil)) (blkOk_by (own := [("_law_k", 4)]) (N := ["_law_script", "_law_some", "_law_seed", "_law_base", "_law_k", "_law_at", "_law_names_here", "_law_letter", "_law_one"]) (sc := defScope s__law_names) (by decide +kernel)) (fun _ _ _ _ _ => (pg_name (i := 4) sc__law_names.nd rfl (Or.inl rfl))) (fun _ _ _ _ _ => pts_nil) (fun _ _ _ _ _ => (pe_ix (ix_seqK (K := K) rfl) (pv 1) (pe_op op_mod (pe_op op_gAdd (pe_op op_fdiv (pv 2) pe_int) (pe_op op_gMul pe_int (pv 4))) pe_int) (fun _ _ => rfl)))) pa_nil)))
        (pss_cons (ps_set (i := 5) sc__law_names.nd rfl (Or.inr rfl) (pe_op op_mod (pe_op op_fdiv (pv 2) pe_int) (pe_op op_gAdd (pe_callB (call_lenK (K := K) rfl) (by rfl) (T.free 23) PySem.boot_len (pa_cons (pv 3) pa_nil)) pe_int)))
        (pss_cons (ps_setLc (i := 6) (own := [("_law_letter", 7)]) (g := gName 7) rfl sc__law_names.nd rfl rfl (sw_true rfl rfl rfl (by decide +kernel)) (pi_str (pv 1)) (blkOk_by (own := [("_law_letter", 7)]) (N := ["_law_script", "_law_some", "_law_seed", "_law_base", "_law_k", "_law_at", "_law_names_here", "_law_letter", "_law_one"]) (sc := defScope s__law_names) (by decide +kernel)) (fun _ _ _ _ _ => (pg_name (i := 7) sc__law_names.nd rfl (Or.inl rfl))) (fun _ _ _ _ _ => pts_nil) (fun _ _ _ _ _ => (pe_op op_gAdd (pe_op op_gAdd (pe_slice sl_str (pv 3) po_none (po_some (pv 5))) (pv 7)) (pe_slice sl_str (pv 3) (po_some (pv 5)) po_none))))
        (pss_cons (ps_set (i := 6) sc__law_names.nd rfl (Or.inl rfl) (pe_op op_gAdd (pv 6) (pe_lc (own := [("_law_one", 8)]) (g := gName 8) rfl sc__law_names.nd (pi_listK (K := K) rfl (pv 6)) (blkOk_by (own := [("_law_one", 8)]) (N := ["_law_script", "_law_some", "_law_seed", "_law_base", "_law_k", "_law_at", "_law_names_here", "_law_letter", "_law_one"]) (sc := defScope s__law_names) (by decide +kernel)) (fun _ _ _ _ _ => (pg_name (i := 8) sc__law_names.nd rfl (Or.inl rfl))) (fun _ _ _ _ _ => pts_one (pt_cmpR op_lt (pe_callB (call_lenK (K := K) rfl) (by rfl) (T.free 23) PySem.boot_len (pa_cons (pv 8) pa_nil)) pe_int (nomark _))) (fun _ _ _ _ _ => (pe_op op_gAdd (pv 8) (pe_slice sl_str pe_str po_none (po_some (pe_op op_sub pe_int (pe_callB (call_lenK (K := K) rfl) (by rfl) (T.free 23) PySem.boot_len (pa_cons (pv 8) pa_nil))))))))))
        (pss_one (ps_ret (pe_slice (sl_listK (K := K) rfl) (pv 6) po_none (po_some (pe_op op_gAdd pe_int (pe_op op_mod (pe_fn (takes_of rfl rfl rfl rfl) c__law_cell_at (hr.mono (by decide)) (by rfl) (pa_cons (pv 0) (pa_cons pe_int pa_nil))) (pe_callB (call_gMin rfl) (by rfl) (T.free 25) (by decide +kernel) (pa_cons pe_int (pa_cons (pe_callB (call_lenK (K := K) rfl) (by rfl) (T.free 23) PySem.boot_len (pa_cons (pv 6) pa_nil)) pa_nil))))))))))))))), ?rd⟩)
  case len => obtain ⟨_, _, rfl, _⟩ := h; rfl
  case rd =>
    obtain ⟨s, ns, rfl, hS, q⟩ := h
    have sz : 10000000 ≤ sizeLine := by rw [sizeLine_eq]; omega
    walk_at "wt"
    refine ⟨s, _, ns, rfl, hS, by omega, ⟨_, rfl, fun z => ?_⟩⟩
    walk_at "wt"
    refine ⟨rfl, by omega, by omega, fun D nD => ?_⟩
    refine lc_range (fun i Hx => ∃ bs : List (List Nat), bs.length = i ∧ (∀ x ∈ bs, x.length = 1 ∧ ∀ c ∈ x, c < 128) ∧ Hx = upd H D (.lst (SgL bs))) ⟨[], rfl, (fun x m => (List.not_mem_nil m).elim), rfl⟩ ?_ ?_
    · rintro i Hx hi ⟨bs, lb, ab, rfl⟩
      refine ⟨rfl, tYes_on ?_⟩
      walk_at "wt"
      obtain ⟨m, em⟩ := Int.eq_ofNat_of_zero_le (Int.emod_nonneg ((z : Int) / 7 + 5 * (0 + (i : Int))) (show (26 : Int) ≠ 0 by decide))
      have hm : m < 26 := by omega
      rw [em, abcS]
      refine r_ixStr (by show 26 ≤ _; omega) (abc_at hm) ⟨_, upd_same, by rw [SgL_len]; omega, bs ++ [[97 + m]], by rw [List.length_append, lb]; rfl, fun x mx => ?_, by rw [upd_upd, SgL_snoc]⟩
      rcases List.mem_append.mp mx with mx | mx
      · exact ab x mx
      · rw [List.mem_singleton.mp mx]
        exact ⟨rfl, fun c mc => by rw [List.mem_singleton.mp mc]; omega⟩
    rintro Hx ⟨bs, lb, ab, rfl⟩
    have sD := same_new (o := .lst (SgL bs)) nD
    have gD : upd H D (.lst (SgL bs)) D = some (.lst (SgL bs)) := upd_same
    generalize upd H D (.lst (SgL bs)) = H1 at sD gD ⊢
    have bsl : bs.length ≤ 7 := by omega
    have ol := ones_len fun x m => (ab x m).1
    rw [show Str.ofString "" = Sg [] from rfl]
    refine r_join (ps := bs) (.of gD) (by show _ + _ * 0 ≤ _; omega) ?_
    rw [joinE]
    have bl : bs.flatten.length = bs.length := by rw [List.length_flatten]; exact ol
    have lowb : ∀ c ∈ bs.flatten, c < 128 := fun c m => by
      obtain ⟨x, mx, mc⟩ := List.mem_flatten.mp m
      exact (ab x mx).2 c mc
    generalize bs.flatten = b at bl lowb ⊢
    walk_at "wt"
    refine r_lenStr ⟨by omega, ?_⟩
    walk_at "wt"
    refine ⟨by omega, ?_⟩
    have p1 := Int.emod_nonneg ((z : Int) / 200) (show (b.length : Int) + 1 ≠ 0 by omega)
    have p2 := Int.emod_lt_of_pos ((z : Int) / 200) (show (0 : Int) < (b.length : Int) + 1 by omega)
    obtain ⟨t, et⟩ := Int.eq_ofNat_of_zero_le p1
    rw [et] at p2 ⊢
    rw [abcS]
    intro D2 nD2
    refine lc_it (walk_str (z := Sg abcL)) (Qd := fun H' => _) (fun i Hx => Hx = upd H1 D2 (.lst (SgL ((N1 b t).take i)))) (by rfl) (fun _ _ _ _ => trivial) ?_ ?_
    · rintro i x Hx H' hi rfl ⟨rfl, c, ec, rfl⟩
      have hi : i < 26 := hi
      have ec : abcL[i]? = some c := by simpa using ec
      rw [abc_at hi] at ec
      cases ec
      refine ⟨rfl, tYes_on ?_⟩
      walk_at "wt"
      refine r_slStr (by omega) ?_
      rw [cutL_to]
      walk_at "wt"
      have tl : (List.take t b).length ≤ 7 := by rw [List.length_take]; omega
      have dl : (List.drop t b).length ≤ 7 := by rw [List.length_drop]; omega
      refine ⟨by rw [Sg_len]; show _ + 1 ≤ _; omega, r_slStr (by omega) ?_⟩
      rw [cutL_from, show ({ cps := #[97 + i] } : Str) = Sg [97 + i] from rfl, Sg_add]
      walk_at "wt"
      rw [Sg_add]
      refine ⟨by rw [Sg_len, Sg_len, List.length_append]; show _ + 1 + _ ≤ _; omega, _, upd_same, by rw [SgL_len, List.length_take, N1_len]; omega, ?_⟩
      have en : (N1 b t)[i]? = some (b.take t ++ [97 + i] ++ b.drop t) := by
        unfold N1
        rw [List.getElem?_map, List.getElem?_range hi]
        rfl
      rw [upd_upd, List.take_add_one, en, ← SgL_snoc]
      rfl
    rintro Hx rfl
    rw [show (N1 b t).take ((Sg abcL).cps.size) = N1 b t from List.take_of_length_le (by rw [N1_len]; exact Nat.le_refl _)]
    have s2 := same_new (o := .lst (SgL (N1 b t))) nD2
    have g2 : upd H1 D2 (.lst (SgL (N1 b t))) D2 = some (.lst (SgL (N1 b t))) := upd_same
    generalize upd H1 D2 (.lst (SgL (N1 b t))) = H2 at s2 g2 ⊢
    have n1l := N1_len (b := b) (a := t)
    refine ⟨D2, rfl, ⟨_, .of g2⟩, fun D3 nD3 => ?_⟩
    refine lc_list (xs := SgL (N1 b t)) (fun i Hx => Hx = upd H2 D3 (.lst (SgL (if b.length + 1 < 7 then ((N1 b t).take i).map (· ++ [97, 98]) else [])))) (by split <;> rfl) (fun i Hx _ e => by rw [e]; exact .of ((upd_ne (ne_of_none g2 nD3)).trans g2)) ?_ ?_
    · rintro i x Hx hx rfl
      obtain ⟨y, ey, rfl⟩ := SgL_mem hx
      have yl := N1_one y (List.mem_of_getElem? ey)
      have il := (List.getElem?_eq_some_iff.mp ey).1
      refine ⟨rfl, ?_⟩
      walk_at "wt"
      refine r_lenStr ⟨by omega, ?_⟩
      walk_at "wt"
      by_cases c : b.length + 1 < 7
      · rw [if_pos (by omega)]
        refine r_lenStr ⟨by omega, ?_⟩
        rw [show ("ab" : Str) = Sg [97, 98] from by decide +kernel]
        walk_at "wt"
        rw [show (8 : Int) - (y.length : Int) = ((8 - y.length : Nat) : Int) from by omega]
        refine r_slStr (by show 2 ≤ _; omega) ?_
        rw [cutL_to, List.take_of_length_le (by show 2 ≤ _; omega)]
        walk_at "wt"
        rw [Sg_add]
        rw [if_pos c, if_pos c]
        refine ⟨by rw [Sg_len, Sg_len]; show _ + 2 ≤ _; omega, _, upd_same, by rw [SgL_len, List.length_map, List.length_take]; omega, ?_⟩
        rw [upd_upd, List.take_add_one, ey, List.map_append, ← SgL_snoc]
        rfl
      · rw [if_neg (by omega), if_neg c, if_neg c]
    rintro Hx rfl
    rw [show (if b.length + 1 < 7 then ((N1 b t).take (SgL (N1 b t)).length).map (· ++ [97, 98]) else []) = N2 b t from by
      unfold N2
      rw [SgL_len, List.take_length]]
    have s3 := same_new (o := .lst (SgL (N2 b t))) nD3
    have g3 : upd H2 D3 (.lst (SgL (N2 b t))) D3 = some (.lst (SgL (N2 b t))) := upd_same
    have g23 := s3 _ _ g2
    generalize upd H2 D3 (.lst (SgL (N2 b t))) = H3 at s3 g3 g23 ⊢
    have n2l := N2_len (b := b) (a := t)
    refine ⟨_, _, g23, g3, by rw [SgL_len, SgL_len]; omega, fun p np => ?_⟩
    rw [← SgL_cat]
    have s4 := same_new (o := .lst (SgL (N1 b t ++ N2 b t))) np
    have g4 : upd H3 p (.lst (SgL (N1 b t ++ N2 b t))) p = some (.lst (SgL (N1 b t ++ N2 b t))) := upd_same
    have s04 := ((sD.trans s2).trans s3).trans s4
    generalize upd H3 p (.lst (SgL (N1 b t ++ N2 b t))) = H4 at s4 g4 s04 ⊢
    have nl : (N1 b t ++ N2 b t).length = 26 + (N2 b t).length := by rw [List.length_append, n1l]
    refine ⟨s, 0, ns, rfl, s04.seq hS, by omega, r_lenL g4 ?_⟩
    rw [SgL_len]
    walk_at "wt"
    rw [show min 42 (((N1 b t ++ N2 b t).length : Nat) : Int) = ((min 42 (N1 b t ++ N2 b t).length : Nat) : Int) from by omega]
    have m0 : 0 < min 42 (N1 b t ++ N2 b t).length := by omega
    have p3 := Int.emod_nonneg (cell ns 0) (show ((min 42 (N1 b t ++ N2 b t).length : Nat) : Int) ≠ 0 by omega)
    have p4 := Int.emod_lt_of_pos (cell ns 0) (show (0 : Int) < ((min 42 (N1 b t ++ N2 b t).length : Nat) : Int) by omega)
    obtain ⟨m, em⟩ := Int.eq_ofNat_of_zero_le p3
    rw [em] at p4 ⊢
    refine ⟨by omega, p, _, rfl, .of g4, fun l nl' => ?_⟩
    rw [show (1 : Int) + (m : Int) = ((1 + m : Nat) : Int) from by omega, cutV_to, SgL_take]
    refine q l _ _ (none_of s04 nl') (s04.trans (same_new nl')) upd_same once_N.take ?_ ?_ fun x mx => low_N lowb x (List.mem_of_mem_take mx)
    · rw [List.length_take]
      omega
    · rw [List.length_take]
      omega
theorem f_law (T : Tx K mg) : Fn P w K mg base 6 "law" ["_law_script"] (sp_law K) := by
  have c__law_names := f__law_names (P := P) (w := w) (base := base) T
  have c__law_all := f__law_all (P := P) (w := w) (base := base) T
  have c_begun := f_begun (P := P) (w := w) (base := base) T
  have c__law_stands := f__law_stands (P := P) (w := w) (base := base) T
  have c__law_next := f__law_next (P := P) (w := w) (base := base) T
  have c__law_statement := f__law_statement (P := P) (w := w) (base := base) T
  have c__law_stepped := f__law_stepped (P := P) (w := w) (base := base) T
  have c__law_cell_at := f__law_cell_at (P := P) (w := w) (base := base) T
  have c_stored := f_stored (P := P) (w := w) (base := base) T
  refine T.mkFn 18 18 (d := d_law) (N := ["_law_script", "_law_names_here", "_law_handed", "_law_s", "_law_k", "_law_due_here", "_law_cell", "_law_seed", "_law_one", "_law_place", "_law_own"]) (k := 5) rfl rfl rfl rfl rfl sc_law (fun _ _ _ _ _ _ us hl => match us, hl with | [_], _ => rfl) (fun vs H Q E h => ?len) (fun cdv A outer s H vs Q E hr h => ⟨_,
      (pss_cons (ps_set (i := 1) sc_law.nd rfl (Or.inl rfl) (pe_fn (takes_of rfl rfl rfl rfl) c__law_names (hr.mono (by decide)) (by rfl) (pa_cons (pv 0) pa_nil)))
        (pss_cons (ps_set (i := 2) sc_law.nd rfl (Or.inl rfl) (pe_callTy (call_listK (K := K) rfl) (by rfl) (T.free 29) (by decide +kernel) (pa_cons (pv 1) pa_nil)))
        (pss_cons (ps_set (i := 3) sc_law.nd rfl (Or.inr rfl) (pe_disp (pps_cons pe_str (pe_lst (pa_cons pe_non (pa_cons pe_non (pa_cons pe_non pa_nil)))) (pps_cons pe_str (pe_lst pa_nil) (pps_cons pe_str pe_dnewK pps_nil))) rfl rfl (by decide) (by decide)))
        (pss_cons (ps_if (pt_not (pt_val (pe_fn (takes_of rfl rfl rfl rfl) c__law_all (hr.mono (by decide)) (by rfl) (pa_cons (pv 3) (pa_cons (pe_fn (takes_of rfl rfl rfl rfl) c_begun (hr.mono (by decide)) (by rfl) (pa_cons (pv 2) pa_nil)) pa_nil))))) (pss_one (ps_ret pe_bl)) pss_nil)
        (pss_cons (ps_if (pt_cmpR (op_neK (K := K) rfl hr.units) (pe_slice (sl_listK (K := K) rfl) (pe_dget (hu_of hr) (pv 3) pe_str (fun _ _ => rfl)) (po_some pe_int) po_none) (pe_lst (pa_cons pe_non (pa_cons pe_non pa_nil))) (nomark _)) (pss_one (ps_ret pe_bl)) pss_nil)
        (pss_cons (ps_if (pt_cmpR (op_neK (K := K) rfl hr.units) (pe_fn (takes_of rfl rfl rfl rfl) c_begun (hr.mono (by decide)) (by rfl) (pa_cons (pe_lst pa_nil) pa_nil)) (pe_lst pa_nil) (nomark _)) (pss_one (ps_ret pe_bl)) pss_nil)
        (pss_cons (ps_for (passes_of rfl) rfl (pi_range1 rfl (T.free 24) (pa_cons (pe_callB (call_lenK (K := K) rfl) (by rfl) (T.free 23) PySem.boot_len (pa_cons (pe_dget (hu_of hr) (pv 3) pe_str (fun _ _ => rfl)) pa_nil)) pa_nil)) (pg_name (i := 4) sc_law.nd rfl (Or.inl rfl)) (pss_one (ps_dput (hu_of hr) (pe_dget (hu_of hr) (pv 3) pe_str (fun _ _ => rfl)) (pv 4) pe_bl rfl)))
        (pss_cons (ps_set (i := 5) sc_law.nd rfl (Or.inl rfl) (pe_op op_gMul (pe_lst (pa_cons pe_non pa_nil)) (pe_callB (call_lenK (K := K) rfl) (by rfl) (T.free 23) PySem.boot_len (pa_cons (pv 1) pa_nil))))
        (pss_cons (ps_if (pt_not (pt_val (pe_fn (takes_of rfl rfl rfl rfl) c__law_stands (hr.mono (by decide)) (by rfl) (pa_cons (pv 3) (pa_cons (pv 2) (pa_cons (pv 5) pa_nil)))))) (pss_one (ps_ret pe_bl)) pss_nil)
        (pss_cons (ps_for (passes_of rfl) rfl (pi_listK (K := K) rfl (pe_slice (sl_listK (K := K) rfl) (pv 0) (po_some pe_int) (po_some pe_int))) (pg_name (i := 6) sc_law.nd rfl (Or.inl rfl)) (pss_cons (ps_set (i := 7) sc_law.nd rfl (Or.inl rfl) (pe_fn (takes_of rfl rfl rfl rfl) c__law_next (hr.mono (by decide)) (by rfl) (pa_cons (pv 6) pa_nil)))
        (pss_cons (ps_set (i := 8) sc_law.nd rfl (Or.inl rfl) (pe_fn (takes_of rfl rfl rfl rfl) c__law_statement (hr.mono (by decide)) (by rfl) (pa_cons (pv 3) (pa_cons (pv 1) (pa_cons (pv 5) (pa_cons (pv 7) pa_nil))))))
        (pss_cons (ps_set (i := 5) sc_law.nd rfl (Or.inl rfl) (pe_fn (takes_of rfl rfl rfl rfl) c__law_stepped (hr.mono (by decide)) (by rfl) (pa_cons (pv 3) (pa_cons (pv 2) (pa_cons (pv 5) (pa_cons (pv 8) pa_nil))))))
        (pss_cons (ps_if (PW.pt (pw_or (pt_cmpR op_isN (pv 5) pe_non (nomark _)) (pw_or1 (pt_not (pt_val (pe_fn (takes_of rfl rfl rfl rfl) c__law_stands (hr.mono (by decide)) (by rfl) (pa_cons (pv 3) (pa_cons (pv 2) (pa_cons (pv 5) pa_nil))))))))) (pss_one (ps_ret pe_bl)) pss_nil)
        (pss_one (ps_if (pt_cmpR (op_neK (K := K) rfl hr.units) (pv 2) (pv 1) (nomark _)) (pss_one (ps_ret pe_bl)) pss_nil)))))))
        (pss_cons (ps_set (i := 9) sc_law.nd rfl (Or.inl rfl) (pe_op op_mod (pe_fn (takes_of rfl rfl rfl rfl) c__law_cell_at (hr.mono (by decide)) (by rfl) (pa_cons (pv 0) (pa_cons pe_int pa_nil))) (pe_callB (call_lenK (K := K) rfl) (by rfl) (T.free 23) PySem.boot_len (pa_cons (pv 1) pa_nil))))
        (pss_cons (ps_asg (pe_op op_mod (pe_op op_fdiv (pe_fn (takes_of rfl rfl rfl rfl) c__law_cell_at (hr.mono (by decide)) (by rfl) (pa_cons (pv 0) (pa_cons pe_int pa_nil))) pe_int) pe_int) (pg_sub (pe_dget (hu_of hr) (pv 3) pe_str (fun _ _ => rfl)) pe_int set_list))
        (pss_cons (ps_setLc (i := 10) (own := [("_law_k", 4)]) (g := gName 4) rfl sc_law.nd rfl rfl (sw_true rfl rfl rfl (by decide +kernel)) (pi_range1 rfl (T.free 24) (pa_cons (pe_callB (call_lenK (K := K) rfl) (by rfl) (T.free 23) PySem.boot_len (pa_cons (pe_dget (hu_of hr) (pv 3) pe_str (fun _ _ => rfl)) pa_nil)) pa_nil)) (blkOk_by (own := [("_law_k", 4)]) (N := ["_law_script", "_law_names_here", "_law_handed", "_law_s", "_law_k", "_law_due_here", "_law_cell", "_law_seed", "_law_one", "_law_place", "_law_own"]) (sc := defScope s_law) (by decide +kernel)) (fun _ _ _ _ _ => (pg_name (i := 4) sc_law.nd rfl (Or.inl rfl))) (fun _ _ _ _ _ => pts_one (pt_cmp (pc_dnotin (hu_of hr) (pv 4) (pe_dget (hu_of hr) (pv 3) pe_str (fun _ _ => rfl))))) (fun _ _ _ _ _ => (pv 4)))
        (pss_cut (ps_if (PW.pt (pw_and (pt_cmpR (op_eqK (K := K) rfl hr.units) (pe_op op_mod (pe_op op_fdiv (pe_fn (takes_of rfl rfl rfl rfl) c__law_cell_at (hr.mono (by decide)) (by rfl) (pa_cons (pv 0) (pa_cons pe_int pa_nil))) pe_int) pe_int) pe_int (nomark _)) (pw_and1 (pt_cmpR (op_neK (K := K) rfl hr.units) (pv 10) (pe_lst pa_nil) (nomark _))))) (pss_one (ps_asg (pe_tup (pa_cons pe_str (pa_cons (pe_ix (ix_seqK (K := K) rfl) (pv 10) (pe_op op_mod (pe_op op_fdiv (pe_fn (takes_of rfl rfl rfl rfl) c__law_cell_at (hr.mono (by decide)) (by rfl) (pa_cons (pv 0) (pa_cons pe_int pa_nil))) pe_int) (pe_callB (call_lenK (K := K) rfl) (by rfl) (T.free 23) PySem.boot_len (pa_cons (pv 10) pa_nil))) (fun _ _ => rfl)) pa_nil))) (pg_sub (pe_dget (hu_of hr) (pv 3) pe_str (fun _ _ => rfl)) pe_int set_list))) pss_nil)
        (pss_cons (ps_asg (pe_ix (ix_seqK (K := K) rfl) (pe_dget (hu_of hr) (pv 3) pe_str (fun _ _ => rfl)) pe_int (fun _ _ => rfl)) (pg_sub (pv 5) (pv 9) set_list))
        (pss_cons (ps_if (PW.pt (pw_or (pt_not (pt_val (pe_fn (takes_of rfl rfl rfl rfl) c__law_all (hr.mono (by decide)) (by rfl) (pa_cons (pv 3) (pa_cons (pe_fn (takes_of rfl rfl rfl rfl) c_stored (hr.mono (by decide)) (by rfl) (pa_cons (pv 2) (pa_cons (pe_ix (ix_seqK (K := K) rfl) (pv 1) (pv 9) (fun _ _ => rfl)) pa_nil))) pa_nil))))) (pw_or1 (pt_cmpR (op_neK (K := K) rfl hr.units) (pe_ix (ix_seqK (K := K) rfl) (pe_dget (hu_of hr) (pv 3) pe_str (fun _ _ => rfl)) pe_int (fun _ _ => rfl)) (pe_ix (ix_seqK (K := K) rfl) (pv 5) (pv 9) (fun _ _ => rfl)) (nomark _))))) (pss_one (ps_ret pe_bl)) pss_nil)
        (pss_one (ps_ret (pe_and (pe_fn (takes_of rfl rfl rfl rfl) c__law_stands (hr.mono (by decide)) (by rfl) (pa_cons (pv 3) (pa_cons (pv 2) (pa_cons (pv 5) pa_nil)))) (pe_one (pe_cmpR (op_eqK (K := K) rfl hr.units) (pv 2) (pv 1) (nomark _)))))))))))))))))))))), ?rd⟩)
  case len => obtain ⟨_, _, rfl, _⟩ := h; rfl
  case rd =>
    obtain ⟨a, ns, rfl, hS, hl, q⟩ := h
    have sz : 10000000 ≤ sizeLine := by rw [sizeLine_eq]; omega
    walk_at "wt"
    refine ⟨a, ns, rfl, hS, fun nl N H1 nn s1 gN on N0 N42 low => ?_⟩
    refine ⟨nl, _, rfl, .inl (.of gN), fun hd nhd => ?_⟩
    have s2 := same_new (o := .lst (SgL N)) nhd
    have gh : upd H1 hd (.lst (SgL N)) hd = some (.lst (SgL N)) := upd_same
    have gN2 := s2 _ _ gN
    have s02 := s1.trans s2
    generalize upd H1 hd (.lst (SgL N)) = B at s2 gh gN2 s02 ⊢
    intro p np
    refine ⟨by omega, fun p1 n1 => ⟨by omega, fun p2 n2 => fun p3 n3 => ?_⟩⟩
    have t0 := same_new (o := .dK []) np
    have t1 := same_new (o := .lst [.non, .non, .non]) n1
    have t2 := same_new (o := .lst []) n2
    have t3 := same_new (o := .dK []) n3
    have gp : upd (upd (upd (upd B p (.dK [])) p1 (.lst [.non, .non, .non])) p2 (.lst [])) p3 (.dK []) p = some (.dK []) := t3 _ _ (t2 _ _ (t1 _ _ upd_same))
    have g1 : upd (upd (upd (upd B p (.dK [])) p1 (.lst [.non, .non, .non])) p2 (.lst [])) p3 (.dK []) p1 = some (.lst [.non, .non, .non]) := t3 _ _ (t2 _ _ upd_same)
    have g2 : upd (upd (upd (upd B p (.dK [])) p1 (.lst [.non, .non, .non])) p2 (.lst [])) p3 (.dK []) p2 = some (.lst []) := t3 _ _ upd_same
    have g3 : upd (upd (upd (upd B p (.dK [])) p1 (.lst [.non, .non, .non])) p2 (.lst [])) p3 (.dK []) p3 = some (.dK []) := upd_same
    have d01 : p ≠ p1 := ne_of_none upd_same n1
    have d02 : p ≠ p2 := ne_of_none (t1 _ _ upd_same) n2
    have d03 : p ≠ p3 := ne_of_none (t2 _ _ (t1 _ _ upd_same)) n3
    have d12 : p1 ≠ p2 := ne_of_none upd_same n2
    have d13 : p1 ≠ p3 := ne_of_none (t2 _ _ upd_same) n3
    have d23 : p2 ≠ p3 := ne_of_none upd_same n3
    have tb := ((t0.trans t1).trans t2).trans t3
    have nb1 : B p1 = none := none_of t0 n1
    have nb2 : B p2 = none := none_of (t0.trans t1) n2
    have nb3 : B p3 = none := none_of ((t0.trans t1).trans t2) n3
    generalize upd (upd (upd (upd B p (.dK [])) p1 (.lst [.non, .non, .non])) p2 (.lst [])) p3 (.dK []) = H4 at gp g1 g2 g3 tb ⊢
    refine ⟨gp, kdK (.ref p1) (.ref p2) (.ref p3), rfl, by show 3 ≤ 15; decide, ?_⟩
    rw [merge_kd]
    have R0 : R29 (upd H4 p (.dK (kdK (.ref p1) (.ref p2) (.ref p3)))) ⟨p, p1, p2, p3, []⟩ [] ⟨[.no, .no, .no], []⟩ :=
      ⟨by simp only [A29.own, List.nodup_cons, List.mem_cons, not_or, List.not_mem_nil, List.nodup_nil]; exact ⟨⟨d01, d02, d03, id⟩, ⟨d12, d13, id⟩, ⟨d23, id⟩, id, trivial⟩, upd_same, ⟨_, (upd_ne d01.symm).trans g1, Reps.none (n := 3)⟩, (upd_ne d02.symm).trans g2, (upd_ne d03.symm).trans g3, rfl, fun i r ts e => by cases e⟩
    have tb5 : Same B (upd H4 p (.dK (kdK (.ref p1) (.ref p2) (.ref p3)))) := fun b o e => (upd_ne (ne_of_none e np)).trans (tb _ _ e)
    have own0 : ∀ b ∈ (⟨p, p1, p2, p3, []⟩ : A29).own, B b = none := fun b m => by
      simp only [A29.own, List.mem_cons, List.not_mem_nil, or_false] at m
      rcases m with rfl | rfl | rfl | rfl
      · exact np
      · exact nb1
      · exact nb2
      · exact nb3
    generalize upd H4 p (.dK (kdK (.ref p1) (.ref p2) (.ref p3))) = H5 at R0 tb5 ⊢
    generalize ha0 : (⟨p, p1, p2, p3, []⟩ : A29) = a0 at R0 own0
    have a0s : a0.s = p := by rw [← ha0]
    have off0 : ∀ {b o}, B b = some o → b ∉ a0.own := fun {b o} e m => by
      rw [own0 b m] at e
      cases e
    -- what stood ahead stays
    have stay : ∀ {H' a'}, Stp H5 a0 H' a' → ∀ b o, B b = some o → H' b = some o := fun {H' a'} st b o e => st.keep _ _ (off0 e) (tb5 _ _ e)
    have offs : ∀ {H' a'}, Stp H5 a0 H' a' → ∀ b o, B b = some o → b ∉ a'.own := fun {H' a'} st b o e => st.off (off0 e) (tb5 _ _ e)
    have bno : ∀ {H' a' b}, Stp H5 a0 H' a' → H' b = none → B b = none := fun {H' a' b} st e => by
      cases g : B b with
      | none => rfl
      | some o =>
        rw [stay st b o g] at e
        cases e
    refine ⟨hd, N, rfl, tb5 _ _ gh, by omega, fun l rs H6 nl6 s6 g6 D6 => ?_⟩
    obtain ⟨S1, e1, F1, c1, h11, h12⟩ := begun_run N0
    have fl := frames_len (i := (N.length + 6) / 7)
    have R6 := R0.same s6
    have bl : (begunD N.length).length ≤ 200 := by
      unfold begunD
      rw [List.length_append]
      split
      · show _ + 1 ≤ _
        omega
      · show _ + 0 ≤ _
        omega
    refine ⟨a0, [], _, S1, l, rs, _, by rw [a0s], R6, rfl, R0.new nl6, g6, D6, e1, by show 0 + _ ≤ _; omega, fun a1 H7 R7 st7 => ?_⟩
    have st07 := (Stp.same (a := a0) s6).trans st7
    have a1s : a1.s = p := st07.s.trans a0s
    walk_at "wt"
    have gH7 := R7.getH
    rw [a1s] at gH7
    obtain ⟨vs7, gv7, rv7⟩ := R7.hs
    refine ⟨_, gH7, a1.hl, vs7, rfl, .of gv7, fun q1 m1 => ?_⟩
    rw [cutV_one]
    dsimp only
    have s8 := same_new (o := .lst (vs7.drop 1)) m1
    refine ⟨by omega, fun q2 m2 => ?_⟩
    have s9 := same_new (o := .lst [.non, .non]) m2
    have hs1 : S1.hs.drop 1 = [.no, .no] := by
      have h3 := F1.h3
      cases e : S1.hs with
      | nil => rw [e] at h3; cases h3
      | cons x r =>
        rw [e] at h11 h12 h3
        cases r with
        | nil => cases h11
        | cons y r =>
          cases r with
          | nil => cases h12
          | cons z r =>
            cases h11
            cases h12
            cases r with
            | nil => rfl
            | cons _ _ => cases h3
    have rq1 := ((rv7.drop (k := 1)).tk (Same.tk s8)).tk (Same.tk s9)
    rw [hs1] at rq1
    refine r_neSame (Reps.dp (s9 _ _ upd_same) rq1) (Reps.dp upd_same (Reps.none (n := 2))) ((ShK.lst ths_sh).ok (by decide)) ?_
    have R9 := (R7.same s8).same s9
    have st9 := (st07.trans (.same s8)).trans (.same s9)
    generalize upd (upd H7 q1 (.lst (vs7.drop 1))) q2 (.lst [.non, .non]) = H9 at R9 st9 ⊢
    walk_at "wt"
    refine ⟨by omega, fun q3 m3 => ⟨q3, [], rfl, upd_same, by decide, fun l2 rs2 H10 nl10 s10 g10 D10 => ⟨by omega, fun q4 m4 => ?_⟩⟩⟩
    have s9' := same_new (o := .lst []) m3
    have s11 := same_new (o := .lst []) m4
    have rs0 : rs2 = [] := List.eq_nil_of_length_eq_zero (by rw [D10.1]; rfl)
    subst rs0
    refine r_neE (s11 _ _ g10) .nil (by decide) upd_same ?_
    have R11 := ((R9.same s9').same s10).same s11
    have st11 := ((st9.trans (.same s9')).trans (.same s10)).trans (.same s11)
    generalize upd H10 q4 (.lst []) = H11 at R11 st11 ⊢
    walk_at "wt"
    have a1s' := a1s
    have gC11 := R11.getC
    rw [a1s] at gC11
    have nfl : (N.length + 6) / 7 ≤ 6 := by omega
    generalize hnf : (N.length + 6) / 7 = nf at F1 c1 nfl
    refine ⟨_, gC11, r_lenL R11.cl ⟨_, rfl, by omega, by rw [List.length_map, R11.len, c1]; omega, ?_⟩⟩
    rw [List.length_map, R11.len, c1, Int.toNat_natCast]
    refine forW_range (fun i σ H' => ∃ o4, σ = [some (.ref a), some (.ref nl), some (.ref hd), some (.ref p), o4, none, none, none, none, none, none] ∧ R29 H' a1 (fkN i) S1 ∧ Stp H5 a0 H' a1) ⟨_, rfl, R11, st11⟩ ?_ ?_
    · rintro i σ H' hi ⟨o4, rfl, R', st'⟩
      walk_at "wt"
      rw [Int.zero_add]
      have gF := R'.getF
      rw [a1s] at gF
      refine ⟨_, gF, a1.fl, _, rfl, dput_i R'.fl (by unfold fkN; rw [List.length_map, List.length_range]; omega), ?_⟩
      rw [fkN_put]
      exact ⟨_, rfl, R'.setF, st'.trans (Stp.put (by simp [A29.own]))⟩
    rintro σ H12 ⟨o4, rfl, R12, st12⟩
    walk_at "wt"
    refine ⟨by omega, fun q5 m5 => ?_⟩
    have s12 := same_new (o := .lst [.non]) m5
    refine r_lenL (s12 _ _ (stay st12 _ _ gN2)) ?_
    rw [SgL_len]
    refine ⟨[.non], upd_same, by omega, by omega, by show 1 * _ ≤ _; omega, fun dl0 nd0 => ?_⟩
    rw [rep_none]
    have s13 := same_new (o := .lst (List.replicate N.length .non)) nd0
    have gd0 : upd (upd H12 q5 (.lst [.non])) dl0 (.lst (List.replicate N.length .non)) dl0 = some (.lst (List.replicate N.length .non)) := upd_same
    have R13 := (R12.same s12).same s13
    have st13 := (st12.trans (.same s12)).trans (.same s13)
    have bd0 : B dl0 = none := bno (st12.trans (.same s12)) nd0
    have do0 : dl0 ∉ a1.own := (R12.same s12).new nd0
    generalize upd (upd H12 q5 (.lst [.non])) dl0 (.lst (List.replicate N.length .non)) = H13 at gd0 R13 st13 ⊢
    have hN13 := stay st13 _ _ gN2
    have hh13 := stay st13 _ _ gh
    have rd0 : Reps H13 (List.replicate N.length .non) (List.replicate N.length .no) := Reps.none
    walk_at "wt"
    refine ⟨a1, _, S1, nf, _, N, hd, dl0, _, by rw [a1s], R13, F1, offs st13 _ _ gh, do0, hh13, gd0, rd0, on, by rw [List.length_replicate], N42, by omega, fun a2 H14 R14 st14 => ?_⟩
    have st514 := st13.trans st14
    have a2s : a2.s = p := st14.s.trans a1s
    have gd14 := st14.keep _ _ do0 gd0
    have do14 : dl0 ∉ a2.own := st14.off do0 gd0
    have rd14 := rd0.tk (R13.tk st14)
    walk_at "wt"
    obtain ⟨cs, ecs⟩ := cut_ints ns (some 3) (some 15)
    have csl : cs.length ≤ 12 := by
      have e := congrArg List.length ecs
      have e2 := cut_len (xs := ns.map V.int) (a := 3) (b := 15) (by decide) (by decide)
      rw [List.length_map] at e
      have : (15 - 3 : Int).toNat = 12 := rfl
      omega
    have hS14 : SqL K H14 a (ns.map V.int) := (fun x => x) (Same.seq (fun b o e => stay st514 b o (s02 _ _ e)) hS)
    refine ⟨a, _, rfl, hS14, fun w nw => ?_⟩
    rw [ecs]
    have s15 := same_new (o := .lst (cs.map V.int)) nw
    have gw : upd H14 w (.lst (cs.map V.int)) w = some (.lst (cs.map V.int)) := upd_same
    have R15 := R14.same s15
    have st15 := st514.trans (.same s15)
    have wo : w ∉ a2.own := R14.new nw
    have gd15 := s15 _ _ gd14
    have rd15 := rd14.tk (Same.tk s15)
    generalize upd H14 w (.lst (cs.map V.int)) = H15 at gw R15 st15 gd15 rd15 ⊢
    refine ⟨w, rfl, ⟨_, .of gw⟩, forW_list (xs := cs.map V.int) (fun i σ H' => ∃ a' S' due dl dv o4 o6 o7 o8, σ = [some (.ref a), some (.ref nl), some (.ref hd), some (.ref p), o4, some (.ref dl), o6, o7, o8, none, none] ∧ R29 H' a' (fkN nf) S' ∧ Stp H15 a2 H' a' ∧ Fr nf S' due ∧ due.length = N.length ∧ dl ∉ a'.own ∧ H' dl = some (.lst dv) ∧ Reps H' dv due ∧ S'.cs.length ≤ nf + i ∧ B dl = none) ⟨a2, S1, _, dl0, _, _, _, _, _, rfl, R15, .refl, F1, List.length_replicate, do14, gd15, rd15, by omega, bd0⟩ ?_ ?_ ?_⟩
    · rintro i σ H' _ ⟨a', S', due, dl, dv, o4, o6, o7, o8, rfl, R', st', -⟩
      exact .of (st'.keep _ _ wo gw)
    · rintro i x σ H' hx ⟨a', S', due, dl, dv, o4, o6, o7, o8, rfl, R', st', F, dn, dlo, gd, rd, cl, bd⟩
      obtain ⟨c, rfl, -⟩ := ints_mem hx
      have il := (List.getElem?_eq_some_iff.mp hx).1
      rw [List.length_map] at il
      have st0 := st15.trans st'
      have as' : a'.s = p := st'.s.trans a2s
      have dk : ∀ (x k : Nat), due[x]? = some (.cell k) → k < S'.cs.length := fun x k e => (F.okd x _ e).2
      walk_at "wt"
      refine ⟨c, rfl, fun z => ?_⟩
      walk_at "wt"
      refine ⟨a', _, S', due, N, nl, dl, dv, z, by rw [as'], R', stay st0 _ _ gN2, gd, rd, by omega, dn.symm, by omega, dk, fun st t H16 okst nt s16 gt => ?_⟩
      have R16 := R'.same s16
      have st16 := st0.trans (.same s16)
      walk_at "wt"
      refine ⟨a', _, S', nf, due, N, hd, dl, dv, st, t, by rw [as'], R16, F, fun k => fkN_val, offs st16 _ _ gh, dlo, stay st16 _ _ gh, s16 _ _ gd, rd.tk (Same.tk s16), dn.symm, N42, on, okst, by omega, gt, fun a3 S3 l3 fv H17 R17 st17 F3 c3 lo3 ln3 g3 r3 => ?_⟩
      have st017 := st16.trans st17
      have a3s : a3.s = p := st17.s.trans as'
      have dn3 : (dueS S' due st).length = N.length := by
        rw [← dn]
        cases st <;> first | rfl | exact List.length_set ..
      walk_at "wt"
      rw [if_neg (by intro z; cases z)]
      refine ⟨a3, _, S3, nf, _, N, hd, l3, fv, by rw [a3s], R17, F3, offs st017 _ _ gh, lo3, stay st017 _ _ gh, g3, r3, on, dn3.symm, N42, by omega, fun a4 H18 R18 st18 => ?_⟩
      have st018 := st017.trans st18
      walk_at "wt"
      refine r_neSame (.lst (.of (stay st018 _ _ gh)) names_dp) (.lst (.of (stay st018 _ _ gN2)) names_dp) (names_sh low) ?_
      walk_at "wt"
      exact ⟨a4, S3, _, l3, fv, _, _, _, _, rfl, R18, ((st'.trans (.same s16)).trans st17).trans st18, F3, dn3, st18.off lo3 g3, st18.keep _ _ lo3 g3, r3.tk (R17.tk st18), by omega, bno st16 ln3⟩
    rintro σ H16 ⟨a', S', due, dl, dv, o4, o6, o7, o8, rfl, R', st', F, dn, dlo, gd, rd, cl, bd⟩
    have st0 := st15.trans st'
    have as' : a'.s = p := st'.s.trans a2s
    have S16 : ∀ {H' a''}, Stp H5 a0 H' a'' → SqL K H' a (ns.map V.int) := fun {H' a''} st => Same.seq (fun b o e => stay st b o (s02 _ _ e)) hS
    rw [List.length_map] at cl
    walk_at "wt"
    refine ⟨a, 2, ns, rfl, S16 st0, by omega, ?_⟩
    refine r_lenL (stay st0 _ _ gN2) ?_
    rw [SgL_len]
    walk_at "wt"
    refine ⟨by omega, ?_⟩
    have p1' := Int.emod_nonneg (cell ns 2) (show (N.length : Int) ≠ 0 by omega)
    have p2' := Int.emod_lt_of_pos (cell ns 2) (show (0 : Int) < (N.length : Int) by omega)
    obtain ⟨pl, epl⟩ := Int.eq_ofNat_of_zero_le p1'
    rw [epl] at p2' ⊢
    have hpl : pl < N.length := by omega
    refine ⟨a, 2, ns, rfl, S16 st0, by omega, ?_⟩
    walk_at "wt"
    have gH := R'.getH
    rw [as'] at gH
    refine ⟨_, gH, ?_⟩
    refine R'.putH (h := 1) F.h3 (by decide) (t := .num (cell ns 2 / 84 % 1000)) rfl fun H17 R17 st17 => ?_
    have st017 := st0.trans st17
    have gd17 := st17.keep _ _ dlo gd
    have rd17 := rd.tk (R'.tk st17)
    have gC := R17.getC
    have gF := R17.getF
    rw [as'] at gC gF
    refine ⟨_, gC, r_lenL R17.cl ⟨_, rfl, by omega, by rw [List.length_map, R17.len]; show (S'.cs.length : Int) < _; omega, ?_⟩⟩
    rw [List.length_map, R17.len, Int.toNat_natCast]
    intro D nD
    refine lc_range (fun i Hx => ∃ ks : List Nat, (∀ k ∈ ks, nf ≤ k ∧ k < S'.cs.length) ∧ ks.length ≤ i ∧ Hx = upd H17 D (.lst (ks.map fun k : Nat => V.int k))) ⟨[], (fun k m => (List.not_mem_nil m).elim), Nat.le_refl _, rfl⟩ ?_ ?_
    · rintro i Hx hi ⟨ks, kg, kl, rfl⟩
      have hi : i < S'.cs.length := hi
      refine ⟨rfl, ?_⟩
      walk_at "wt"
      rw [Int.zero_add]
      have Rx := R17.same (same_new (o := .lst (ks.map fun k : Nat => V.int k)) nD)
      have gF' := Rx.getF
      rw [as'] at gF'
      refine ⟨_, gF', a'.fl, _, rfl, dget_i Rx.fl, ?_⟩
      rw [fkN_val]
      by_cases c : i < nf
      · rw [decide_eq_true c]
        walk_at "wt"
        exact ⟨ks, kg, by omega, rfl⟩
      · rw [decide_eq_false c]
        walk_at "wt"
        refine ⟨_, upd_same, by rw [List.length_map]; omega, ks ++ [i], fun k m => ?_, by rw [List.length_append]; show _ + 1 ≤ _; omega, by rw [upd_upd, List.map_append]; rfl⟩
        rcases List.mem_append.mp m with m | m
        · exact kg k m
        · rw [List.mem_singleton.mp m]
          exact ⟨by omega, hi⟩
    rintro Hx ⟨ks, kg, kl, rfl⟩
    have s18 := same_new (o := .lst (ks.map fun k : Nat => V.int k)) nD
    have gk : upd H17 D (.lst (ks.map fun k : Nat => V.int k)) D = some (.lst (ks.map fun k : Nat => V.int k)) := upd_same
    have R18 := R17.same s18
    have st18 := st017.trans (.same s18)
    have gd18 := s18 _ _ gd17
    have rd18 := rd17.tk (Same.tk s18)
    generalize upd H17 D (.lst (ks.map fun k : Nat => V.int k)) = H18 at gk R18 st18 gd18 rd18 ⊢
    refine ⟨fun σ' Hy => σ' = [some (.ref a), some (.ref nl), some (.ref hd), some (.ref p), o4, some (.ref dl), o6, o7, o8, some (.int (pl : Int)), some (.ref D)] ∧ ∃ th, R29 Hy a' (fkN nf) ⟨S'.hs.set 1 th, S'.cs⟩ ∧ OkT nf S'.cs.length th ∧ Stp H5 a0 Hy a' ∧ Hy dl = some (.lst dv) ∧ Reps Hy dv due, ?_, ?_⟩
    · refine ⟨a, 2, ns, rfl, S16 st18, by omega, ?_⟩
      walk_at "wt"
      by_cases c : cell ns 2 / 42 % 2 = 1
      · rw [if_pos c]
        refine ⟨by omega, fun q6 m6 => ?_⟩
        have s19 := same_new (o := .lst []) m6
        refine r_neE (s19 _ _ gk) nats_dp nats_sh upd_same ?_
        have R19 := R18.same s19
        have st19 := st18.trans (.same s19)
        have gk19 := s19 _ _ gk
        have gd19 := s19 _ _ gd18
        have rd19 := rd18.tk (Same.tk s19)
        generalize upd H18 q6 (.lst []) = H19 at R19 st19 gk19 gd19 rd19 ⊢
        walk_at "wt"
        by_cases ne : List.map (fun k : Nat => PyData.int k) ks = []
        · rw [if_neg (fun z => z ne)]
          first | exact ⟨rfl, _, R19, trivial, st19, gd19, rd19⟩ | exact ⟨_, R19, trivial, st19, gd19, rd19⟩
        · rw [if_pos ne]
          have k0 : 0 < ks.length := by
            cases ks with
            | nil => exact absurd rfl ne
            | cons x y => exact Nat.succ_pos _
          refine ⟨a, 2, ns, rfl, S16 st19, by omega, ?_⟩
          walk_at "wt"
          refine r_lenL gk19 ?_
          rw [List.length_map]
          walk_at "wt"
          refine ⟨by omega, ?_⟩
          have p3' := Int.emod_nonneg (cell ns 2 / 84) (show (ks.length : Int) ≠ 0 by omega)
          have p4' := Int.emod_lt_of_pos (cell ns 2 / 84) (show (0 : Int) < (ks.length : Int) by omega)
          obtain ⟨y, ey⟩ := Int.eq_ofNat_of_zero_le p3'
          rw [ey] at p4' ⊢
          have hy : y < ks.length := by omega
          have eky : ks[y]? = some ks[y] := List.getElem?_eq_getElem hy
          have kgy := kg ks[y] (List.mem_of_getElem? eky)
          refine r_ixL gk19 (by rw [List.getElem?_map, eky]; rfl) ⟨by omega, fun u nu => ?_⟩
          have s20 := same_new (o := .tup [.str "cell", .int ((ks[y] : Nat) : Int)]) nu
          have R20 := R19.same s20
          have gH20 := R20.getH
          rw [as'] at gH20
          refine ⟨_, gH20, R20.putH (h := 1) (by show (S'.hs.set _ _).length = 3; rw [List.length_set]; exact F.h3) (by decide) (t := .cell ks[y]) ⟨u, rfl, upd_same⟩ fun H21 R21 st21 => ?_⟩
          rw [List.set_set] at R21
          first | exact ⟨rfl, _, R21, kgy, (st19.trans (.same s20)).trans st21, st21.keep _ _ dlo (s20 _ _ gd19), (rd19.tk (Same.tk s20)).tk (R20.tk st21)⟩ | exact ⟨_, R21, kgy, (st19.trans (.same s20)).trans st21, st21.keep _ _ dlo (s20 _ _ gd19), (rd19.tk (Same.tk s20)).tk (R20.tk st21)⟩
      · rw [if_neg c]
        first | exact ⟨rfl, _, R18, trivial, st18, gd18, rd18⟩ | exact ⟨_, R18, trivial, st18, gd18, rd18⟩
    clear R18 st18 gd18 rd18
    rintro σ' H22 ⟨rfl, th, R22, okt, st22, gd22, rd22⟩
    have gH22 := R22.getH
    rw [as'] at gH22
    have F22 : Fr nf ⟨S'.hs.set 1 th, S'.cs⟩ due := F.setH (by decide)
    obtain ⟨vs22, v22, gh22, ev22, rv22⟩ := R22.hand (set_at F.h3 (by decide : 1 < 3))
    walk_at "wt"
    refine ⟨_, gH22, r_ixL (i := 1) gh22 ev22 ⟨dl, _, _, pl, rfl, rfl, gd22, ixN_nat (by rw [rd22.1]; omega), ?_⟩⟩
    have tk23 : Tk H22 (upd H22 dl (.lst (dv.set pl v22))) := tk_put gd22
    have R23 := R22.keep (H' := upd H22 dl (.lst (dv.set pl v22))) (fun b o m e => (upd_ne fun z => dlo (by rw [← z]; exact m)).trans e) tk23
    have gd23 : upd H22 dl (.lst (dv.set pl v22)) dl = some (.lst (dv.set pl v22)) := upd_same
    have rd23 : Reps (upd H22 dl (.lst (dv.set pl v22))) (dv.set pl v22) (due.set pl th) := (rd22.tk tk23).set (rv22.tk tk23)
    have stay23 : ∀ b o, B b = some o → upd H22 dl (.lst (dv.set pl v22)) b = some o := fun b o e => (upd_ne (ne_of_none e bd)).trans (stay st22 _ _ e)
    generalize upd H22 dl (.lst (dv.set pl v22)) = H23 at R23 gd23 rd23 stay23 ⊢
    walk_at "wt"
    refine r_ixL (stay23 _ _ gN2) (SgL_at (nm_at hpl)) ?_
    refine ⟨hd, pl, N, _, rfl, stay23 _ _ gh, by omega, on, nm_at hpl, fun l rs H24 nl24 s24 g24 D24 => ?_⟩
    have R24 := R23.same s24
    obtain ⟨hs', cs', e1', e2', F25, c25, -⟩ := F22.store (by omega : pl < due.length) (set_at F.h3 (by decide : 1 < 3)) okt
    have sl := storedD_len (p := pl)
    refine ⟨a', _, _, _, l, rs, _, by rw [as'], R24, F22.h3, R23.new nl24, g24, D24, e1', by show S'.cs.length + _ ≤ _; omega, fun a5 H25 R25 st25 => ?_⟩
    have a5s : a5.s = p := st25.s.trans as'
    have off' : ∀ {b o}, B b = some o → b ∉ a'.own := fun {b o} e => offs st22 b o e
    have stay25 : ∀ b o, B b = some o → H25 b = some o := fun b o e => st25.keep _ _ (off' e) (s24 _ _ (stay23 b o e))
    have gd25 := st25.keep _ _ dlo (s24 _ _ gd23)
    have rd25 := (rd23.tk (Same.tk s24)).tk (R24.tk st25)
    have dl25 := st25.off dlo (s24 _ _ gd23)
    have off5 : ∀ {b o}, B b = some o → b ∉ a5.own := fun {b o} e => st25.off (off' e) (s24 _ _ (stay23 b o e))
    have gH25 := R25.getH
    rw [a5s] at gH25
    obtain ⟨vs25, v25, gh25, ev25, rv25⟩ := R25.hand e2'
    obtain ⟨vp, evp, rvp⟩ := rd25.2 pl th (List.getElem?_set_self (by omega))
    walk_at "wt"
    refine ⟨_, gH25, r_ixL (i := 1) gh25 ev25 (r_ixL gd25 evp (r_neTh rv25 rvp ?_))⟩
    walk_at "wt"
    refine ⟨a5, _, _, nf, _, N, hd, dl, _, by rw [a5s], R25, F25, off5 gh, dl25, stay25 _ _ gh, gd25, rd25, on, by rw [List.length_set]; exact dn.symm, N42, by show cs'.length ≤ _; rw [c25]; show S'.cs.length ≤ _; omega, fun a6 H26 R26 st26 => ?_⟩
    walk_at "wt"
    have stay26 : ∀ b o, B b = some o → H26 b = some o := fun b o e => st26.keep _ _ (off5 e) (stay25 b o e)
    exact r_eqSame (.lst (.of (stay26 _ _ gh)) names_dp) (.lst (.of (stay26 _ _ gN2)) names_dp) (names_sh low) (q _)
end

theorem facts {w : World} {K : PySem.W.Frag} {h : Heap} {mg : Str → Option Value} {f : Addr} (X : K.In h) (G : h.Ns mainGlobals mg) (hfa : mg ("law" : Str) = some (.ref f)) (c : He.SaysD fa fn K) (ce : exOk exL K = true) :
    ∃ fd : FuncData, (∀ (s : Shared) (v : Value), BindsTo s fd ⟨[v], []⟩ [("_law_script", v)]) ∧ ∀ base : Heap, K.In base → base.Ns mainGlobals mg → FnOk (PySem.Challenge.rw_cellkeep_k29_frames).prog w K mg base CX0 6 f fd ["_law_script"] (sp_law K) := by
  have T : Tx K mg := ⟨⟨h, X, G⟩, c, ce⟩
  have e := hfa.symm.trans (T.glo 18)
  cases e
  have F : ∀ base : Heap, Fn (PySem.Challenge.rw_cellkeep_k29_frames).prog w K mg base 6 "law" ["_law_script"] (sp_law K) := fun base => f_law T
  exact ⟨_, fun s v => (F h).bd s [v] rfl, fun base _ _ => quiet (F base).ok fun _ _ _ _ z => z⟩

end Pr
open PySem PySem.W PySem.Calls PyProof.Rows
theorem PySem.Challenge.cw_cellkeep_k29_frames_holds : PySem.Challenge.rw_cellkeep_k29_frames.Holds := by
  w_on; o_law
  refine HandSHeadRun.head_any (r := OpenLaw.row PySem.Challenge.rw_cellkeep_k29_frames) (q := view (OpenLaw.row PySem.Challenge.rw_cellkeep_k29_frames).prog [23]) (H := Pr.hk) (ob := Pr.ob) (M := 16000) (loose := Pr.loose) (d := HandSHeadRun.topDef (OpenLaw.row PySem.Challenge.rw_cellkeep_k29_frames).prog 23) (kwd := []) Pr.ob_eq
    (by kernel_rfl) (fun s => by kernel_rfl) Pr.run (by kernel_rfl) (by kernel_rfl) (by kernel_rfl) (by rfl) (by first | assumption | decide +kernel) (by decide +kernel) ⟨rfl, rfl, rfl, rfl, rfl, by decide +kernel⟩ ?hw ?hc
  case hw => w_witness2
  case hc =>
    refine L2.walk_ofE (l := PySem.Challenge.rw_cellkeep_k29_frames) (n := 63) (k := 6) (x := "_law_script") (CX := L2.CX0) rfl (by decide) (by kernel_rfl) ⟨rfl, by decide, by decide⟩ ?F (fun _ _ _ _ z => z)
    case F =>
      intro w mg fa h Y G hmg0
      obtain ⟨K, KX, c, ce⟩ := Y
      have hmg : mg ("law" : PySem.Str) = some (.ref fa) := by
        have e : (HandSHeadRun.topDef (OpenLaw.row PySem.Challenge.rw_cellkeep_k29_frames).prog 23).name = ("law" : PySem.Str) := by kernel_rfl
        rw [← e]
        exact hmg0
      obtain ⟨fd, hb, hF⟩ := Pr.facts (w := w) KX G hmg c ce
      exact ⟨K, fd, Pr.sp_law K, KX, hb, fun H a ns hl _ hS => ⟨a, ns, rfl, hS, hl, fun _ => rfl⟩, hF⟩
#print axioms PySem.Challenge.cw_cellkeep_k29_frames_holds

