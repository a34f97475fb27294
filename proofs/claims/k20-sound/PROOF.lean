import PyProof.Rows.All
import Wide.All
import OpenK.AllK
import Wide.FinOn
import KE.KStateDown
import HandS.Base
import HandS.Call
import HandS.List
import HandS.Comp
import HandS.Ends
import HandS.Dict
import HandS.Iter
import HandS.Walk
import HandS.Text
import HandS.Words
import HandS.WordsList
import HandS.WordsDict
import HandS.Exc
import HandS.TryOnly
import HandS.TryMany
import HandS.ExcOwn
import HandS.WordsExc
import HandS.IsInst
import HandS.ExcIs
import HandS.Flow
import HandS.More
import HandS.Wide
import HandS.SortInts
import HandS.Defaults
import HandS.Head0
import HandS.Head1
import HandS.Head2
import HandS.HeadEnd
import HandS.HeadHook1
import HandS.HeadHook2
import PySem.Challenge.RW_cellkeep_k20_what_is_not_sound
set_option Elab.async false
set_option linter.all false
set_option maxRecDepth 100000
set_option maxHeartbeats 4000000
namespace G
open PySem PySem.Spec PyProof.Rows L2

/-! ## a caught exception as a tracked thing -/
/-- an exception object of class cls stands at a -/
def ExA (cls : Value) (a : Addr) : HO := .ext fun h => ∃ (o : Obj) (fv : Array Value), h.get? a = some o ∧ Zc cls none o ∧ o.data = .fields fv
theorem exA_ok {P : Program} {w : World} {H : Hp} {h : Heap} {a : Addr} {cls : Value} {o : Obj} {fv : Array Value} (e : h.get? a = some o) (z : Zc cls none o) (d : o.data = .fields fv) : ObjOk P w H h a (ExA cls a) :=
  ⟨⟨o, fv, e, z, d⟩, ⟨o, e⟩, fun _ _ ⟨o', fv', e', z', d'⟩ k => ⟨o', fv', k _ e', z', d'⟩⟩

section
variable {X : Cx} {pins : List (Addr × Obj)} {σ : L2.St} {H : Hp} {s : Shared}
/-- an object that stands untracked is tracked from now on -/
theorem track {a : Addr} {u : HO} (I : Inv X pins σ H s) (na : H a = none) (n0 : X.s_0.heap.get? a = none) (nL : a ≠ X.env.locals) (nC : ∀ x c, X.env.cells.lookup x = some c → c ≠ a)
    (nP : ∀ p ∈ X.pn ++ pins, p.1 ≠ a) (new : ObjOk X.prog X.w (upd H a u) s.heap a u) : Inv X pins σ (upd H a u) s := by
  have ne0 : ∀ b o, X.s_0.heap.get? b = some o → b ≠ a := fun b o e z => by rw [z, n0] at e; cases e
  have neH : ∀ b o, H b = some o → b ≠ a := fun b o e z => by rw [z, na] at e; cases e
  refine ⟨I.ok, I.os, I.bare, ⟨I.base.keep, I.base.slot, ?_, I.base.there, ?_, ?_, ?_⟩, I.loc, I.cell, ?_, ?_, ?_, ?_, I.len⟩
  · intro b o e n hx
    rw [upd_ne (ne0 b o e)]
    exact I.base.free b o e n hx
  · intro b xs e
    have q := I.base.tups b xs e
    rw [upd_ne (neH b _ q)]
    exact q
  · intro b o u' e
    have q := I.base.frzs b o u' e
    rw [upd_ne (neH b _ q)]
    exact q
  · intro b ps e
    obtain ⟨m, q⟩ := I.base.tbls b ps e
    exact ⟨m, by rw [upd_ne (neH b _ q)]; exact q⟩
  · rw [upd_ne (Ne.symm nL)]
    exact I.free
  · intro x c e
    rw [upd_ne (nC x c e)]
    exact I.freeC x c e
  · intro p hp
    obtain ⟨e, n, ne, nf, d⟩ := I.pin p hp
    exact ⟨e, by rw [upd_ne (nP p hp)]; exact n, ne, nf, d⟩
  · intro b o e
    by_cases hb : b = a
    · subst hb
      rw [upd_same] at e
      cases e
      exact new
    · rw [upd_ne hb] at e
      refine (I.hok b o e).stay (fun _ _ _ z => z) (fun c z => ?_) fun c xs z => ?_
      · rw [upd_ne (neH c _ z)]
        exact z
      · rw [upd_ne (neH c _ z)]
        exact z
/-- a list that was laid since the def began is forgotten -/
theorem forget {a : Addr} {xs : List V} (I : Inv X pins σ (upd H a (.lst xs)) s) (na : H a = none) (n0 : X.H_0 a = none) : Inv X pins σ H s := by
  have back : ∀ b, b ≠ a → upd H a (.lst xs) b = H b := fun b hb => upd_ne hb
  have nn : ∀ b, upd H a (.lst xs) b = none → H b = none := fun b e => by
    by_cases hb : b = a
    · rw [hb, upd_same] at e
      cases e
    · rw [upd_ne hb] at e
      exact e
  refine ⟨I.ok, I.os, I.bare, ⟨I.base.keep, I.base.slot, fun b o e n hx => nn b (I.base.free b o e n hx), I.base.there, ?_, ?_, ?_⟩, I.loc, I.cell, nn _ I.free, fun x c e => nn _ (I.freeC x c e), fun p hp => ?_, ?_, I.len⟩
  · intro b ys e
    rw [← back b (fun z => by rw [z, n0] at e; cases e)]
    exact I.base.tups b ys e
  · intro b o u' e
    rw [← back b (fun z => by rw [z, n0] at e; cases e)]
    exact I.base.frzs b o u' e
  · intro b ps e
    rw [← back b (fun z => by rw [z, n0] at e; cases e)]
    exact I.base.tbls b ps e
  · obtain ⟨e, n, r⟩ := I.pin p hp
    exact ⟨e, nn _ n, r⟩
  · intro b o e
    have hb : b ≠ a := fun z => by rw [z, na] at e; cases e
    have q : upd H a (.lst xs) b = some o := by rw [upd_ne hb]; exact e
    refine (I.hok b o q).stay (fun _ _ _ z => z) (fun c z => ?_) fun c ys z => ?_
    · rw [← back c (fun y => by rw [y, upd_same] at z; cases z)]
      exact z
    · rw [← back c (fun y => by rw [y, upd_same] at z; cases z)]
      exact z
/-- what a fresh address of now was ahead of the def -/
theorem fresh0 {a : Addr} (I : Inv X pins σ H s) (na : H a = none) (nt : ∀ o, X.H_0 a = some o → ∃ ob, X.s_0.heap.get? a = some ob) (hs : s.heap.objs.size ≤ a) : X.H_0 a = none := by
  cases e : X.H_0 a with
  | none => rfl
  | some o =>
    obtain ⟨ob, q⟩ := nt o e
    exact absurd (Nat.lt_of_lt_of_le (Heap.lt_size q) (Nat.le_trans I.sz hs)) (Nat.lt_irrefl _)
end
end G
namespace G
open PySem PySem.Spec PyProof.Rows L2
/-! ## a display that is subscripted at once -/
section
variable {X : Cx} {pins : List (Addr × Obj)} {σ : L2.St} {H : Hp} {s : Shared}
theorem itemAt {value slice : Expr} {E : Value → Shared → Prop} {Q : Value → Shared → Prop} {p : Addr} {xs : List V} {its : List Value} {i : Int} {t : Tok} {z : V} (r : Vals xs its) (pl : PlainL s.heap p its.toArray) (hz : xs.length ≤ sizeLine) (he : atI xs i = some z)
    (fin : ∀ w, RelV z w → Q w s) (hs : subscripted slice false (.ref p) (.int i t) = operate [.ref p, .int i t] (getItem (.ref p) (.int i t))) :
    wpAny (model X.prog X.w) X.A (subscriptTail value slice (.ref p) (.int i t)) Q E s := by
  obtain ⟨j, g1, g2, g3, g4, g5⟩ := atI_get he
  obtain ⟨u, eu, ru⟩ := r.get g2
  have ln := r.length
  have big := line63
  by_cases c : 0 ≤ i
  · have ej : i.toNat = j := Option.some.inj ((seqIndex_of c g5).symm.trans g1)
    exact item_listR pl.isList c (by omega) (by subst ej; simpa using eu) (fin u ru) hs
  · have ej : (i + (its.toArray.size : Int)).toNat = j := by
      have z1 := (seqIndex_neg (by omega) g4).symm.trans g1
      simp only [List.size_toArray, ← ln]
      exact Option.some.inj z1
    refine subscriptTail_builtinR (x := u) pl.isList.typeIs slot_list_getitem.lookup ?_ hs
    refine wpAny_getItem_list_neg (Q := fun r s' => r = u ∧ Q r s') pl.isList (by omega) ?_ (by omega) (by subst ej; simpa using eu) ⟨rfl, fin u ru⟩
    simp only [List.size_toArray]
    omega
/-- [a, b, ..][i]: the list is never seen again -/
def tMenu (ta : TA) (ti : TE) : TE := fun σ H Q => ta σ H fun xs H1 => xs.length ≤ sizeLine ∧ ti σ H1 fun y H2 => ∃ i v, y = .int i ∧ atI xs i = some v ∧ Q v H2
theorem pe_menu {es : List Expr} {b : Expr} {ta : TA} {tb : TE} {p1 pos : Pos} (ha : PA X es ta) (hb : PE X b tb) (hs : PlainIx b) : PE X (.Subscript (.List es p1) b pos) (tMenu ta tb) := by
  refine ⟨fun pins s σ H Q I h => ?_⟩
  refine Subscript_ (wpAny_List_spliced (thn (ha.run p1 pins s σ H _ I h) fun us s1 ⟨xs, H1, I1, r, z, q⟩ => ⟨by rw [← r.length]; exact z, ?_⟩))
  have hf : H1 s1.heap.objs.size = none := I1.hok.fresh (Nat.le_refl _)
  have I2 : Inv X pins σ H1 { s1 with heap := s1.heap.push { cls := .type "list", data := .seq us.toArray } } := I1.kept (t' := s1.toks) fun _ _ e => Heap.get?_push_of_some _ e
  have eo : (s1.heap.push { cls := .type "list", data := .seq us.toArray }).get? s1.heap.objs.size = some { cls := .type "list", data := .seq us.toArray } := Heap.get?_push_size _ rfl
  have I3 := I2.pinned (fp := [s1.heap.objs.size]) (fun b hb => by
    have e : b = s1.heap.objs.size := by simpa using hb
    subst e
    exact I1.fpOk (Nat.le_refl _) hf) fun b hb => by
    have e : b = s1.heap.objs.size := by simpa using hb
    subst e
    exact ⟨_, eo, fun v z => by cases z⟩
  refine thn (hb.run _ _ σ H1 _ I3 q) fun u s2 ⟨y, H2, I4, ry, i, v, ey, hv, q2⟩ => ?_
  subst ey
  obtain ⟨t, rfl⟩ := ry
  have e2 : s2.heap.get? s1.heap.objs.size = some { cls := .type "list", data := .seq us.toArray } :=
    (I4.pin (s1.heap.objs.size, _) (List.mem_append_right _ (List.mem_append_right _ (mem_pinsAt (List.mem_cons_self) eo)))).1
  exact itemAt r ⟨_, _, e2, rfl, rfl, rfl⟩ z hv (fun w rw' => ⟨v, H2, I4.unpinned, rw', q2⟩) (hs _ _)
end
/-! ## defs that may be called while an exception is handled: they raise nothing -/
structure RoomN (k : Nat) (A : Around) : Prop where
  dp : A.depth + 3 * k + 5 < recursionLimit
  un : A.units + 16 * k + 200 < cLine
theorem roomN_of {k : Nat} {A : Around} (r : Room k A) : RoomN k A := ⟨r.dp, r.un⟩
theorem roomN_mark {k : Nat} {A : Around} {v : Option Value} (r : Room k A) : RoomN k (A.mark v) := ⟨r.dp, r.un⟩
theorem RoomN.mono {j k : Nat} {A : Around} (r : RoomN k A) (h : j ≤ k) : RoomN j A := ⟨by have := r.dp; omega, by have := r.un; omega⟩
theorem RoomN.deeper {k : Nat} {A : Around} (r : RoomN (k + 1) A) (env : Env) : RoomN k (A.deeper env) :=
  ⟨by have h := r.dp; show A.depth + 1 + (3 * k + 5) < _; omega, by have h := r.un; show A.units + 3 + (16 * k + 200) < _; omega⟩
abbrev cxN (P : Program) (w : World) (K : PySem.W.Frag) (mg : Str → Option Value) (base : Heap) (N : List Str) (qual : Str) (scope : Scope) (f : Addr) (cd : Value) (A : Around) (outer : List Env) (s : Shared) (H : Hp) : Cx :=
  { cxOf CX0 P w K mg base N qual scope f cd A outer s H E0 with calm := false }
structure FnN (P : Program) (w : World) (K : PySem.W.Frag) (mg : Str → Option Value) (base : Heap) (k : Nat) (f : Addr) (fd : FuncData) (ps : List Str) (sp : Sp) : Prop where
  len : ∀ vs H Q E, sp vs H Q E → vs.length = ps.length
  run : ∀ (A : Around) (outer : List Env) (s : Shared) (H : Hp) (args : Args) (us : List Value) (vs : List V) (Q : VK), RoomN k A → Env0 P w K mg base A outer s H → BindsTo s fd args (ps.zip us) → Vals vs us → sp vs H Q E0 →
    codeAny (model P w) A (.call (.ref f) args) (CR CX0 outer P w H s Q E0) s
theorem FnN.mono {P : Program} {w : World} {K : PySem.W.Frag} {mg : Str → Option Value} {base : Heap} {j k : Nat} {f : Addr} {fd : FuncData} {ps : List Str} {sp : Sp} (F : FnN P w K mg base j f fd ps sp) (h : j ≤ k) : FnN P w K mg base k f fd ps sp :=
  ⟨F.len, fun A outer s H args us vs Q hr => F.run A outer s H args us vs Q (hr.mono h)⟩
section
variable {P : Program} {w : World} {K : PySem.W.Frag} {mg : Str → Option Value} {base : Heap}
theorem fn_ofN {x qual : Str} {params : Arguments} {body : List Stmt} {scope : Scope} {dvs : List V} {kws : List (Str × V)} {f : Addr} {fd : FuncData} {N ps : List Str} {k : Nat} {sp : Sp} (F : FunD K x qual params body scope dvs kws f fd) (S : FnScope N ps scope)
    (len : ∀ vs H Q E, sp vs H Q E → vs.length = ps.length)
    (hbody : ∀ (cdv : Value) (A : Around) (outer : List Env) (s : Shared) (H : Hp) (vs : List V) (Q : VK), RoomN k (A.deeper (envOfC qual scope s.heap.objs.size f cdv)) → sp vs H Q E0 →
      ∃ t, PSs (cxN P w K mg base N qual scope f cdv A outer s H) body t ∧ t { nx := fun _ H' => Q .non H', rt := Q } (start N vs) H) : FnN P w K mg base (k + 1) f fd ps sp := by
  obtain ⟨oc, od, dV, kV, doc, pm, an, cdv, ct, osl, rfl, lk, hcd, -, -⟩ := F.ex
  refine ⟨len, fun A outer s H args us vs Q hr e0 hb r hsp => ?_⟩
  have hl := len _ _ _ _ hsp
  have st : ∀ b o, base.get? b = some o → s.heap.get? b = some o := fun b o e => (e0.bs b o e).1
  have KX : K.In s.heap := e0.mod.kin.keeps st
  refine codeAny_call_function (by have := hr.dp; omega) (KX _ _ lk) rfl S.co S.gen rfl (PySem.W.codeRec_of KX hcd) (hb _ _ _ _ ?_)
  refine wpAny_newFunctionEnv_cells S.kind (fun y hy => ?_) fun env he s1 x => ?_
  · rcases S.par y.1 (List.of_mem_zip hy).1 with q | q
    · exact .inl q
    · exact .inr ⟨q, PySem.W.cellsFrom_some _ _ _ (.inl q)⟩
  subst he
  refine ⟨(e0.mod.nolimit.keeps st).keeps x.toInCall.keep, codeAny_func ?_⟩
  obtain ⟨t, ht, hq⟩ := hbody cdv A outer s H vs Q (hr.deeper _) hsp
  have J : Inv (cxOf CX0 P w K mg base N qual scope f cdv { A with handled := none } outer s H E0) [] (start N vs) H s1 := inv_start S rfl ⟨e0.frames, e0.mod, e0.bs, e0.bsz, e0.funs, e0.frf, e0.hok, e0.bare⟩ hl r x
  have I : Inv (cxN P w K mg base N qual scope f cdv A outer s H) [] (start N vs) H s1 :=
    ⟨⟨J.ok.mod, J.ok.kind, J.ok.glob, J.ok.blt, J.ok.above, J.ok.inj, J.ok.has, J.ok.cab, fun z => Bool.noConfusion (show false = true from z), Around.frames_deeper e0.frames, J.ok.stk, J.ok.exf, J.ok.bs, J.ok.bsz, J.ok.noex, J.ok.exfs, J.ok.funs, J.ok.frf⟩,
      J.os, J.bare, J.base, J.loc, J.cell, J.free, J.freeC, J.pin, J.hok, J.len⟩
  refine wpAny_mono (ht.run [] s1 (start N vs) H _ I hq) (fun fl s' hs => ?_) fun e s' hs => hs
  cases fl with
  | ret u =>
    obtain ⟨v, σ', H', J', rv, q⟩ := hs
    exact ⟨v, H', J'.os, J'.bare, J'.base, J'.hok, rv, q⟩
  | next =>
    obtain ⟨σ', H', J', q⟩ := hs
    exact ⟨.non, H', J'.os, J'.bare, J'.base, J'.hok, rfl, q⟩
  | brk => exact hs.elim fun _ z => z.elim fun _ y => y.2.elim
  | cont => exact hs.elim fun _ z => z.elim fun _ y => y.2.elim
/-- as any def -/
theorem FnN.ok {k : Nat} {f : Addr} {fd : FuncData} {ps : List Str} {sp : Sp} (F : FnN P w K mg base k f fd ps sp) (h0 : ∀ vs H Q E, sp vs H Q E → sp vs H Q E0) : FnOk P w K mg base (L2.CX P w) k f fd ps sp :=
  ⟨F.len, fun A outer s H args us vs Q E hr e0 hb r hsp => codeAny_mono (F.run A outer s H args us vs Q (roomN_of hr) e0 hb r (h0 _ _ _ _ hsp)) fun r s' hq => by
    cases r with
    | error e => exact hq.elim
    | ok fl => cases fl with
      | ret u => exact hq
      | next => exact hq.elim
      | brk => exact hq.elim
      | cont => exact hq.elim⟩
end
section
variable {X : Cx} {k : Nat} {f : Addr} {fd : FuncData} {ps : List Str} {sp : Sp} {x : Str} {q pos : Pos} {e : Expr} {es : List Expr} {t : TA}
def tCallN (sp : Sp) (t : TA) : TE := fun σ H Q => t σ H fun vs H1 => sp vs H1 Q E0
theorem pe_callN (F : FnN X.prog X.w X.K X.mg X.base k f fd ps sp) (hr : RoomN k X.A) (hg : Gl X x) (hm : X.mg x = some (.ref f)) (hk : PySem.W.keepIn X.K (.ref f) = true) (hb : Binds X.K fd ps [])
    (ha : PA X (e :: es) t) (hdb : (x == ("__debug__" : Str)) = false := by decide) (he : starEach (e :: es) X.env = (false, eval e X.env) :: starEach es X.env := by rfl) (hpl : (backTo pos (starEach es X.env)).any (·.1) = false := by rfl) :
    PE X (.Call (.Name x q) (e :: es) [] pos) (tCallN sp t) := by
  refine ⟨fun pins s σ H Q I h => ?_⟩
  refine wpAny_Call_Name_kw (ld_glob I hg hm ?_ hdb)
  refine PySem.W.callWith_K (h₀ := X.base) I.ok.mod.kin hk (thn (ha.run pos pins s σ H _ I h) fun us s1 hh => ?_) he hpl
  obtain ⟨vs, H1, I1, r, h2⟩ := hh
  refine ⟨I1.kIn, ?_⟩
  have hl : us.length = ps.length := by rw [← r.length]; exact F.len _ _ _ _ h2
  have b := hb s1 us I1.kIn (by rw [List.append_nil]; exact hl)
  rw [List.append_nil] at b
  refine wpAny_call (codeAny_mono (F.run X.A X.stack s1 H1 ⟨us, []⟩ us vs Q hr I1.env0 b r h2) fun r s' hq => ?_)
  cases r with
  | error e => exact hq.elim
  | ok fl => cases fl with
    | ret u => exact I1.after hq
    | next => exact hq.elim
    | brk => exact hq.elim
    | cont => exact hq.elim
end
end G
namespace G
open PySem PySem.Spec PyProof.Rows L2
/-! ## calls whose exceptions the surroundings take (W) -/
section
variable {X : Cx} {k : Nat} {f C : Addr} {fd : FuncData} {ps : List Str} {sp : Sp} {W : WX} {x m : Str} {p pos apos : Pos} {e o : Expr} {es : List Expr} {ta : TE} {t : TA}
/-- f(..) -/
def tCallW (sp : Sp) (W : WX) (t : TA) : TE := fun σ H Q => t σ H fun vs H1 => sp vs H1 Q fun c d H2 => W c d σ H2
theorem pe_callW (tk : Takes X W) (F : FnOk X.prog X.w X.K X.mg X.base (L2.CX X.prog X.w) k f fd ps sp) (hr : Room k X.A) (hg : Gl X x) (hm : X.mg x = some (.ref f)) (hk : PySem.W.keepIn X.K (.ref f) = true) (hb : Binds X.K fd ps [])
    (ha : PA X (e :: es) t) (hdb : (x == ("__debug__" : Str)) = false := by decide) (he : starEach (e :: es) X.env = (false, eval e X.env) :: starEach es X.env := by rfl) (hpl : (backTo pos (starEach es X.env)).any (·.1) = false := by rfl) :
    PE X (.Call (.Name x p) (e :: es) [] pos) (tCallW sp W t) := pe_callS F hr hg hm hk hb (fun σ => passAt tk σ) ha hdb he hpl
theorem pe_callW0 (tk : Takes X W) (F : FnOk X.prog X.w X.K X.mg X.base (L2.CX X.prog X.w) k f fd ps sp) (hr : Room k X.A) (hg : Gl X x) (hm : X.mg x = some (.ref f)) (hk : PySem.W.keepIn X.K (.ref f) = true) (hb : Binds X.K fd ps [])
    (hdb : (x == ("__debug__" : Str)) = false := by decide) : PE X (.Call (.Name x p) [] [] pos) (tCallW sp W tNil) := by
  refine ⟨fun pins s σ H Q I h => wpAny_Call_Name_kw (ld_glob I hg hm ?_ hdb)⟩
  exact PySem.W.callWith_K0 I.kIn hk (run_fnS (us := []) (E := WE W) F hr hb (passAt tk σ) I .nil h)
/-- o.m(..) -/
def tMethW (C : Addr) (m : Str) (sp : Sp) (W : WX) (ta : TE) (t : TA) : TE := fun σ H Q => ta σ H fun x H1 => ∃ a dx fs, x = .ref a ∧ H1 a = some (.ins C dx fs) ∧ fs.lookup m = none ∧ t σ H1 fun vs H2 => sp (x :: vs) H2 Q fun c d H3 => W c d σ H3
theorem pe_methW {pl : Sem Bool} (tk : Takes X W) (he : PE X o ta) (c : Cls X.K C) (hm : Meth X.K C m f) (F : FnOk X.prog X.w X.K X.mg X.base (L2.CX X.prog X.w) k f fd ps sp) (hr : Room k X.A) (hb : Binds X.K fd ps []) (ha : PA X (e :: es) t)
    (hst : starEach (e :: es) X.env = (false, eval e X.env) :: starEach es X.env := by rfl) (hpl : (backTo pos (starEach es X.env)).any (·.1) = false := by rfl)
    (ht : eval (.Call (.Attribute o m apos) (e :: es) [] pos) X.env = (do
      let z ← eval o X.env
      standAt apos.atName
      let (g, one) ← holding [z] (getMethod z m pl)
      callWith pos g one (backTo pos (starEach (e :: es) X.env)) (backToKw pos (keywordEach [] X.env))) := by rfl) :
    PE X (.Call (.Attribute o m apos) (e :: es) [] pos) (tMethW C m sp W ta t) := by
  refine ⟨fun pins s σ H Q I h => ?_⟩
  refine PySem.W.methodCall_KW (pl := pl) (thn (he.run pins s σ H _ I h) fun u s1 hh => ?_) ht
  obtain ⟨y, H1, I1, ry, a, dx, fs, ey, ea, l, q⟩ := hh
  subst ey
  obtain rfl : u = Value.ref a := ry
  refine getmeth_ok I1 ea c hm l ?_
  refine PySem.W.callWith_K (first := [.ref a]) (h₀ := X.base) I.ok.mod.kin hm.kp (thn (ha.run pos pins s1 σ H1 _ I1 q) fun us s2 h2 => ?_) hst hpl
  obtain ⟨vs, H2, I2, r, q2⟩ := h2
  exact ⟨I2.kIn, run_fnS (us := .ref a :: us) (vs := .ref a :: vs) (E := WE W) F hr hb (passAt tk σ) I2 (.cons rfl r) q2⟩
theorem pe_methW0 {pl : Sem Bool} (tk : Takes X W) (he : PE X o ta) (c : Cls X.K C) (hm : Meth X.K C m f) (F : FnOk X.prog X.w X.K X.mg X.base (L2.CX X.prog X.w) k f fd ps sp) (hr : Room k X.A) (hb : Binds X.K fd ps [])
    (ht : eval (.Call (.Attribute o m apos) [] [] pos) X.env = (do
      let z ← eval o X.env
      standAt apos.atName
      let (g, one) ← holding [z] (getMethod z m pl)
      callWith pos g one (backTo pos (starEach [] X.env)) (backToKw pos (keywordEach [] X.env))) := by rfl) :
    PE X (.Call (.Attribute o m apos) [] [] pos) (tMethW C m sp W ta tNil) := by
  refine ⟨fun pins s σ H Q I h => ?_⟩
  refine PySem.W.methodCall_KW (pl := pl) (thn (he.run pins s σ H _ I h) fun u s1 hh => ?_) ht
  obtain ⟨y, H1, I1, ry, a, dx, fs, ey, ea, l, q⟩ := hh
  subst ey
  obtain rfl : u = Value.ref a := ry
  refine getmeth_ok I1 ea c hm l ?_
  exact PySem.W.callWith_K0 (first := [.ref a]) I1.kIn hm.kp (run_fnS (us := [.ref a]) (vs := [.ref a]) (E := WE W) F hr hb (passAt tk σ) I1 (.cons rfl .nil) q)
/-- C(..) -/
def tMakeW (C : Addr) (sp : Sp) (W : WX) (t : TA) : TE := fun σ H Q => t σ H fun vs H1 => ∀ x dx, H1 x = none → H1 dx = none → dx ≠ x →
  sp (.ref x :: vs) (upd (upd H1 dx (.own x)) x (.ins C dx [])) (fun v H2 => v = .non ∧ Q (.ref x) H2) fun c d H3 => W c d σ H3
theorem run_makeW {pins : List (Addr × Obj)} {σ : L2.St} {H : Hp} {s : Shared} {Q : VK} {us : List Value} {vs : List V} (tk : Takes X W) (M : Mk X.K C f) (F : FnOk X.prog X.w X.K X.mg X.base (L2.CX X.prog X.w) k f fd ps sp) (hr : Room (k + 1) X.A) (hb : Binds X.K fd ps [])
    (I : Inv X pins σ H s) (r : Vals vs us)
    (h : ∀ x dx, H x = none → H dx = none → dx ≠ x → sp (.ref x :: vs) (upd (upd H dx (.own x)) x (.ins C dx [])) (fun v H2 => v = .non ∧ Q (.ref x) H2) fun c d H3 => W c d σ H3) :
    wpAny (model X.prog X.w) X.A (call (.ref C) us) (EP X pins σ Q) X.xe s := by
  have go := h (s.heap.objs.size + 1) s.heap.objs.size (I.hok.fresh (Nat.le_succ _)) (I.hok.fresh (Nat.le_refl _)) (Nat.ne_of_lt (Nat.lt_succ_self _))
  have J := Inv.made (C := C) I
  have r2 : Vals (V.ref (s.heap.objs.size + 1) :: vs) (Value.ref (s.heap.objs.size + 1) :: us) := .cons rfl r
  have hl : (Value.ref (s.heap.objs.size + 1) :: us).length = ps.length := r2.length.symm.trans (F.len _ _ _ _ go)
  have b := hb { s with heap := (s.heap.push PySem.W.emptyDict).push (PySem.W.instObj C s.heap.objs.size) } (Value.ref (s.heap.objs.size + 1) :: us) J.kIn (by rw [List.append_nil]; exact hl)
  rw [List.append_nil] at b
  refine wpAny_call (make_map (f := f) I.kIn M.makes M.init (beq_iff_eq.mp M.fn) (codeAny_mono (F.run _ X.stack _ _ ⟨Value.ref (s.heap.objs.size + 1) :: us, []⟩ _ _ _ _ (hr.make C us []) (J.env0.make C us []) b r2 go) fun r s' hq => ?_))
  cases r with
  | error e => exact passAt tk σ pins _ _ e s' J hq
  | ok fl =>
    cases fl with
    | ret u =>
      obtain ⟨v, H', I3, rv, ev, q3⟩ := J.after hq
      subst ev
      exact ⟨rv, V.ref (s.heap.objs.size + 1), H', I3, rfl, q3⟩
    | next => exact hq.elim
    | brk => exact hq.elim
    | cont => exact hq.elim
theorem pe_makeW (tk : Takes X W) (M : Mk X.K C f) (F : FnOk X.prog X.w X.K X.mg X.base (L2.CX X.prog X.w) k f fd ps sp) (hr : Room (k + 1) X.A) (hg : Gl X x) (hm : X.mg x = some (.ref C)) (hb : Binds X.K fd ps [])
    (ha : PA X (e :: es) t) (hdb : (x == ("__debug__" : Str)) = false := by decide) (he : starEach (e :: es) X.env = (false, eval e X.env) :: starEach es X.env := by rfl) (hpl : (backTo pos (starEach es X.env)).any (·.1) = false := by rfl) :
    PE X (.Call (.Name x p) (e :: es) [] pos) (tMakeW C sp W t) := by
  refine ⟨fun pins s σ H Q I h => wpAny_Call_Name_kw (ld_glob I hg hm ?_ hdb)⟩
  refine PySem.W.callWith_K (h₀ := X.base) I.ok.mod.kin M.kp (thn (ha.run pos pins s σ H _ I h) fun us s1 hh => ?_) he hpl
  obtain ⟨vs, H1, I1, r, q⟩ := hh
  exact ⟨I1.kIn, run_makeW tk M F hr hb I1 r q⟩
theorem pe_makeW0 (tk : Takes X W) (M : Mk X.K C f) (F : FnOk X.prog X.w X.K X.mg X.base (L2.CX X.prog X.w) k f fd ps sp) (hr : Room (k + 1) X.A) (hg : Gl X x) (hm : X.mg x = some (.ref C)) (hb : Binds X.K fd ps [])
    (hdb : (x == ("__debug__" : Str)) = false := by decide) : PE X (.Call (.Name x p) [] [] pos) (tMakeW C sp W tNil) := by
  refine ⟨fun pins s σ H Q I h => wpAny_Call_Name_kw (ld_glob I hg hm ?_ hdb)⟩
  exact PySem.W.callWith_K0 I.kIn M.kp (run_makeW (us := []) tk M F hr hb I .nil h)
end

/-! ## try .. except x as n, the exception a tracked thing in the suite -/
/-- what the clause wishes; slot i is n's -/
def wTr (K : PySem.W.Frag) (c : Value) (i : Nat) (ts : TS) (Wo : WX) (D : Ends) : WX := fun cls d σ H => ∃ b, PySem.W.exmOne K cls c = some b ∧
  (b = true → d = none ∧ ∀ a, H a = none → ts { nx := fun σ' H' => D.nx (σ'.set i none) H', rt := D.rt, bk := fun σ' H' => D.bk (σ'.set i none) H', ct := fun σ' H' => D.ct (σ'.set i none) H' } (σ.set i (some (.ref a))) (upd H a (ExA cls a))) ∧ (b = false → Wo cls d σ H)
section
variable {X : Cx} {x n : Str} {c : Value} {i : Nat} {body suite : List Stmt} {b0 : Stmt} {np pos pos' : Pos} {tb : WX → TS} {ts : TS} {Wo : WX}
theorem toSuite {pins : List (Addr × Obj)} {σ : L2.St} {H : Hp} {s : Shared} (I : Inv X pins σ H s) (a : Addr) : Inv (X.suite a (X.pn ++ pins)) [] σ H s :=
  ⟨I.ok.suite _ _, I.os, I.bare, I.base, I.loc, I.cell, I.free, I.freeC, fun p hp => I.pin p (by simpa using hp), I.hok, I.len⟩
theorem ofSuite {pins pl : List (Addr × Obj)} {σ : L2.St} {H : Hp} {s : Shared} {a : Addr} (ok : X.Ok) (I : Inv (X.suite a (X.pn ++ pins)) pl σ H s) : Inv X pins σ H s :=
  ⟨ok, I.os, I.bare, I.base, I.loc, I.cell, I.free, I.freeC, fun p hp => I.pin p (List.mem_append_left _ hp), I.hok, I.len⟩
theorem ps_tryT (hs : X.stack = X.env :: X.outer) (hf : X.env.frame = some X.env.locals) (hex : X.ex = []) (hN : X.N.Nodup) (hi : X.N[i]? = some n) (hln : X.env.kindOf n = some .local) (hc : Names X x c) (tk : Takes X Wo)
    (hb : ∀ (W : WX) (pn : List (Addr × Obj)) (xe : Value → Shared → Prop), Takes (X.tr pn xe) W → PassesOwn (model X.prog X.w) X.A X.env xe → PSs (X.tr pn xe) body (tb W))
    (hsu : ∀ (a : Addr) (pn : List (Addr × Obj)), PSs (X.suite a pn) (b0 :: suite) ts) :
    PS X (.Try body [.ExceptHandler (some (.Name x np)) (some n) (b0 :: suite) pos'] [] [] pos) (fun D σ H => tb (wTr X.K c i ts Wo D) D σ H) := by
  refine ⟨fun pins s σ H D I h => ?_⟩
  have ok := I.ok
  have hfr : X.A.frames = some (X.env :: X.outer) := by rw [ok.frames, hs]
  have lo : Loc X.env.scope n := .inl hln
  let rest : List ExceptHandler := [.ExceptHandler (some (.Name x np)) (some n) (b0 :: suite) pos']
  let M := model X.prog X.w
  let wish : Value → Shared → Prop := fun e u1 => wpAny M X.A (noteFrame e X.env) (fun _ u2 => wpAny M X.A (setFlight e none) (fun _ u3 => wpAny M X.A (handleBy e X.env rest) (SP X pins D) X.xe u3) X.xe u2) X.xe u1
  refine wpAny_Try_except (wpAny_mono ((hb (wTr X.K c i ts Wo D) (X.pn ++ pins) wish (fun u s' air => ?_) PassesOwn.looking).run [] s σ H D (I.toTry _) h) (fun fl s1 hsp => ?_) (fun e s1 he => he))
  · obtain ⟨a, B, sg, pi', σ1, H1, cls, d, rfl, Jt, nb, up, sky, na, os, ag, b, e1, yes, no⟩ := air
    have J : Inv X pins σ1 H1 sg := Jt.ofTry ok
    have sky' : Sky B (X.env :: X.outer) a (Zc cls d) X.env.locals s'.heap := by rw [← hs]; exact sky
    show wpAny M X.A (noteFrame (.ref a) X.env) _ _ _
    refine Sky.land Zc.steady hfr hf sky' fun h3 fl3 up3 => ?_
    have u3 := up.trans up3
    have J3 : Inv X pins σ1 H1 { s' with heap := h3 } := J.landed nb fl3.1 u3 os ag
    obtain ⟨o3, f3, g3, z3, d3⟩ := fl3.there
    have nfr : a ∉ frs (X.env :: X.outer) := fun hm => by
      obtain ⟨-, o', g', nf⟩ := fl3.2.2.1.mem hm
      rw [g3] at g'
      cases g'
      exact nf _ d3
    have nL : a ≠ X.env.locals := fun z => nfr (List.mem_filterMap.mpr ⟨X.env, List.mem_cons_self, by rw [hf, z]⟩)
    have nst : a ∉ frs X.stack := by rw [hs]; exact nfr
    have nB : B.get? a = none := fl3.2.1
    have ng : sg.heap.get? a = none := by
      cases e : sg.heap.get? a with
      | none => rfl
      | some o =>
        rw [nb a o e nst] at nB
        cases nB
    have n0 : X.s_0.heap.get? a = none := by
      cases e : X.s_0.heap.get? a with
      | none => rfl
      | some o =>
        obtain ⟨o', q⟩ := J.base.there a o e (by rw [hex]; exact List.not_mem_nil)
        rw [ng] at q
        cases q
    have nC : ∀ y z, X.env.cells.lookup y = some z → z ≠ a := fun y z e q => by
      obtain ⟨v, ob, e2, -⟩ := J.cell y z e
      rw [q, ng] at e2
      cases e2
    have nP : ∀ p ∈ X.pn ++ pins, p.1 ≠ a := fun p hp q => by
      have e2 := (J.pin p hp).1
      rw [q, ng] at e2
      cases e2
    have S3 := toSuite J3 a
    refine wpAny_handleBy_cons (codeAny_handlers_test ?_) (by intro q; cases q)
    have LT : PySem.W.Looks M h3 (typeOf (.ref a)) cls := fun _ _ _ _ k q => wpAny_typeOf_ref (k _ _ g3) (by rw [z3.1]; exact q)
    have LM := PySem.W.exm_one (M := M) J3.kIn LT e1
    have test : ∀ {Q : Value → Shared → Prop} {E : Value → Shared → Prop}, Q c { s' with heap := h3 } → wpAny M (X.A.mark (some (.ref a))) (eval (.Name x np) X.env) Q E { s' with heap := h3 } := fun {Q E} q => by
      obtain ⟨hg, hdb, hm | ⟨hm, hv, hnn⟩⟩ := hc
      · exact ld_glob (X := X.suite a (X.pn ++ pins)) S3 hg hm q hdb
      · exact ld_blt (X := X.suite a (X.pn ++ pins)) S3 hg hm hv q hnn hdb
    refine test (LM.here ?_)
    cases b with
    | true =>
      refine codeAny_handlers_suite_as (HandSPX.lands_againZ fl3 fun h4 fl4 up4 => ?_)
      have J4 : Inv X pins σ1 H1 { s' with heap := h4 } := J.landed nb fl4.1 (u3.trans up4) os ag
      obtain ⟨o4, f4, g4, z4, d4⟩ := fl4.there
      obtain ⟨ed, go⟩ := yes rfl
      subst ed
      have J5 := track (u := ExA cls a) J4 na n0 nL nC nP (exA_ok g4 z4 d4)
      refine store_ok (X := X.suite a (X.pn ++ pins)) (v := .ref a) (toSuite J5 a) hN hi lo rfl (fun s5 S5 => ?_) (.inr hln)
      refine wpAny_mono ((hsu a (X.pn ++ pins)).run [] s5 _ _ _ S5 (go a na)) (fun fl s6 hsp => ?_) (fun _ _ z => False.elim z)
      have out : ∀ {σ6 : L2.St} {H6 : Hp} {Q : Shared → Prop}, Inv (X.suite a (X.pn ++ pins)) [] σ6 H6 s6 → (∀ s7, Inv X pins (σ6.set i none) H6 s7 → Q s7) →
          wpAny M X.A (do bindName X.env n .none; unbindBehindTheSuite X.env n pos') (fun _ s7 => Q s7) X.xe s6 := fun S6 hq => gone_ok (ofSuite ok S6) hN hi hln hq
      cases fl with
      | next => exact hsp.elim fun _ z => z.elim fun _ q => out q.1 fun s7 J7 => ⟨_, _, J7, q.2⟩
      | brk => exact hsp.elim fun _ z => z.elim fun _ q => out q.1 fun s7 J7 => ⟨_, _, J7, q.2⟩
      | cont => exact hsp.elim fun _ z => z.elim fun _ q => out q.1 fun s7 J7 => ⟨_, _, J7, q.2⟩
      | ret u =>
        obtain ⟨v6, σ6, H6, S6, r6, q6⟩ := hsp
        exact out S6 fun s7 J7 => ⟨_, _, _, J7, r6, q6⟩
    | false =>
      show wpAny M X.A (handleBy (.ref a) X.env []) _ _ _
      refine wpAny_handleBy_nil ?_
      obtain ⟨-, -, -, oe, vs, T, oT, ts', he, hz, hd, h1, hr⟩ := id fl3
      unfold PySem.passOn
      refine wpAny_bind (wpAny_field he hd h1 ?_)
      rw [if_neg (show ¬ ((Value.ref T == Value.none) = true) from by simp)]
      have fin : wpAny M X.A (setFlight (.ref a) X.env.frame) (fun _ u4 => wpAny M X.A (throw (.ref a) : Sem Flow) (SP X pins D) X.xe u4) X.xe { s' with heap := h3 } := by
        rw [hf]
        refine HandSPX.setFlight_upZ fl3 fun h4 hh4 up4 => wpAny_throw (tk _ _ ?_)
        exact ⟨a, B, sg, pins, σ1, H1, cls, d, rfl, J, nb, u3.trans up4, .inr (.inr (by rw [hs]; exact hh4)), na, os, ag, no rfl⟩
      first
        | exact wpAny_bind (wpAny_pure (wpAny_bind fin))
        | exact wpAny_bind fin
  · cases fl with
    | next => exact hsp.elim fun σ1 z => z.elim fun H1 q => wpAny_execs_nil ⟨σ1, H1, q.1.ofTry ok, q.2⟩
    | brk => exact hsp.elim fun σ1 z => z.elim fun H1 q => ⟨σ1, H1, q.1.ofTry ok, q.2⟩
    | cont => exact hsp.elim fun σ1 z => z.elim fun H1 q => ⟨σ1, H1, q.1.ofTry ok, q.2⟩
    | ret u =>
      obtain ⟨v, σ1, H1, J, r, q⟩ := hsp
      exact ⟨v, σ1, H1, J.ofTry ok, r, q⟩
end
end G
namespace G
open PySem PySem.Spec PyProof.Rows L2
/-! ## isinstance -/
def tyO : Option HO → Option String
  | some (.lst _) => some "list"
  | some (.frz _ (.lst _)) => some "list"
  | some (.tup _) => some "tuple"
  | some (.dK _) => some "dict"
  | some (.dT _) => some "dict"
  | _ => none
def tyOf : V → Hp → Option String
  | .non, _ => some "NoneType"
  | .bl _, _ => some "bool"
  | .int _, _ => some "int"
  | .str _, _ => some "str"
  | .ref a, H => tyO (H a)
  | _, _ => none
theorem tyOf_ok {K : PySem.W.Frag} {x : V} {H : Hp} {t : String} (h : tyOf x H = some t) : TyX K H x (.type t) := by
  cases x with
  | non => cases h; exact .base .non
  | bl b => cases h; exact .base (.bl b)
  | int i => cases h; exact .base (.int i)
  | str z => cases h; exact .base (.str z)
  | byt z => cases h
  | flt z => cases h
  | ty z => cases h
  | ref a =>
    have h1 : tyO (H a) = some t := h
    unfold tyO at h1
    split at h1
    · rename_i e; cases h1; exact .base (.lst e)
    · rename_i e; cases h1; exact .base (.frz e)
    · rename_i e; cases h1; exact .base (.tup e)
    · rename_i e; cases h1; exact .base (.dK e)
    · rename_i e; cases h1; exact .base (.dT e)
    · cases h1
/-- the classes that are asked of plain things, and the answer -/
def isB (t n : String) : Bool := t == n || (t == "bool" && n == "int")
def tys : List String := ["NoneType", "bool", "int", "str", "list", "tuple", "dict"]
theorem isB_all : ∀ t ∈ tys, ∀ n ∈ (["int", "bool", "str", "list", "tuple", "dict"] : List String), kitB t n = some (isB t n) := by decide +kernel
theorem tyOf_in {x : V} {H : Hp} {t : String} (h : tyOf x H = some t) : t ∈ tys := by
  unfold tyOf at h
  split at h
  all_goals first
    | (cases h; decide)
    | (unfold tyO at h; split at h <;> first | (cases h; decide) | (cases h))
    | (cases h)
/-- isinstance(x, T) of a plain thing -/
def gIsi : List V → Hp → VK → Prop
  | [x, .ty n], H, Q => n ∈ (["int", "bool", "str", "list", "tuple", "dict"] : List String) ∧ ∃ t, tyOf x H = some t ∧ Q (.bl (isB t n)) H
  | _, _, _ => False
section
variable {X : Cx}
theorem call_gIsi : CallR X (.builtin "isinstance") gIsi := by
  intro pins s σ H xs us Q I r h
  unfold gIsi at h
  split at h
  · obtain ⟨hn, t, ht, q⟩ := h
    exact call_isi pins s σ _ _ us Q I r ⟨_, _, .type t, .type _, _, rfl, .ty _, tyOf_ok ht, kit_ty (isB_all t (tyOf_in ht) _ hn), q⟩
  · exact h.elim
/-- isinstance(e, C) of a caught error -/
def gIsE (K : PySem.W.Frag) : List V → Hp → VK → Prop
  | [.ref a, c], H, Q => ∃ D u b, H a = some (ExA (.ref D) a) ∧ ExcC K D ∧ ClsV c u ∧ PySem.W.kitOne K (.ref D) u = some b ∧ Q (.bl b) H
  | _, _, _ => False
theorem exA_kit {pins : List (Addr × Obj)} {σ : L2.St} {H : Hp} {s : Shared} {a D : Addr} (I : Inv X pins σ H s) (h : H a = some (ExA (.ref D) a)) (C : ExcC X.K D) : ∃ P : Heap → Prop, PySem.W.KitX X.K (.ref a) (.ref D) P ∧ P s.heap := by
  obtain ⟨⟨o, fv, e, z, d⟩, -, -⟩ := I.hok a _ h
  have J : PySem.W.InstAt s.heap a o D none := by
    obtain ⟨oc, od, dt, sl⟩ := o
    obtain ⟨z1, z2⟩ := z
    dsimp only at z1 z2 d
    subst z1 z2 d
    exact ⟨e, rfl, rfl, trivial⟩
  exact ⟨_, PySem.W.handS_kitx_exc C.hg C.hk C.hs C.hd C.ha C.hn C.ht C.hm, J⟩
theorem call_gIsE : CallR X (.builtin "isinstance") (gIsE X.K) := by
  intro pins s σ H xs us Q I r h
  unfold gIsE at h
  split at h
  · obtain ⟨D, u, b, ha, C, hc, hk, q⟩ := h
    obtain ⟨u1, u2, rfl, r1, r2⟩ := vals2 r
    have e2 := hc.eq r2
    subst e2
    cases (show u1 = Value.ref _ from r1)
    obtain ⟨P, Z, p⟩ := exA_kit I ha C
    exact PySem.W.kia_one Z I.kIn p hk (fun z => nomatch z) fun tk => ⟨.bl b, _, I.tok tk, rfl, q⟩
  · exact h.elim
/-- isinstance(e, (C1, C2, ..)) of a caught error: the tuple is never seen again -/
def tIsT (K : PySem.W.Frag) (ta : TE) (tc : TA) : TE := fun σ H Q => ta σ H fun x H1 => tc σ H1 fun cs H2 => cs.length ≤ sizeLine ∧ ∃ a D us b, x = .ref a ∧ H2 a = some (ExA (.ref D) a) ∧ ExcC K D ∧ Paired ClsV cs us ∧ PySem.W.kitAny K (.ref D) us = some b ∧ Q (.bl b) H2
theorem pe_isT {a : Expr} {es : List Expr} {x1} {ta : TE} {tc : TA} {p tp pos : Pos} (hg : Gl X "isinstance") (hm : X.mg "isinstance" = none) (ha : PE X a ta) (hc : PA X es tc)
    (he : starEach [a, .Tuple es x1 tp] X.env = [(false, eval a X.env), (false, eval (.Tuple es x1 tp) X.env)] := by rfl) : PE X (.Call (.Name "isinstance" p) [a, .Tuple es x1 tp] [] pos) (tIsT X.K ta tc) := by
  refine ⟨fun pins s σ H Q I h => ?_⟩
  refine wpAny_Call_Name_kw (ld_blt I hg hm (by decide +kernel : bootBuiltins "isinstance" = some (.builtin "isinstance")) ?_ (by decide) (by decide))
  refine PyProof.Rows.callWith_builtin1 (rest := [.Tuple es x1 tp]) ?_ he rfl
  rw [he]
  show wpAny _ _ (spliced [(false, eval a X.env), (false, eval (.Tuple es x1 tp) X.env)]) _ _ _
  refine Calls.spliced_cons (thn (ha.run pins s σ H _ I h) fun u s1 ⟨x, H1, I1, rx, q1⟩ => ?_)
  refine Calls.spliced_cons (wpAny_Tuple_spliced (x1 := x1) (thn (hc.run tp pins s1 σ H1 _ I1 q1) fun us s2 hh => ?_))
  obtain ⟨cs, H2, I2, rc, hz, y, D, ws, b, ex, hy, C, hcl, hk, q⟩ := hh
  subst ex
  cases (show u = Value.ref y from rx)
  refine ⟨by rw [← rc.length]; exact hz, Calls.spliced_nil ?_⟩
  have e3 := ClsV.all hcl rc
  subst e3
  have I3 : Inv X pins σ H2 { s2 with heap := s2.heap.push { cls := .type "tuple", data := .seq us.toArray } } := I2.kept (t' := s2.toks) fun _ _ e => Heap.get?_push_of_some _ e
  obtain ⟨P, Z, p⟩ := exA_kit I3 hy C
  exact PySem.W.kia_tup Z I3.kIn p (Heap.get?_push_size _ rfl) hk (fun z => nomatch z) fun tk => ⟨.bl b, H2, I3.tok tk, rfl, q⟩

/-! ## operators by the kinds of their values -/
def gAdd : R2
  | .int i, .int j, H, Q => Q (.int (i + j)) H
  | .str i, .str j, H, Q => i.length + j.length ≤ sizeLine ∧ Q (.str (i ++ j)) H
  | .ref a, .ref b, H, Q => ∃ xs zs, H a = some (.lst xs) ∧ H b = some (.lst zs) ∧ xs.length + zs.length ≤ sizeLine ∧ ∀ p, H p = none → Q (.ref p) (upd H p (.lst (xs ++ zs)))
  | _, _, _, _ => False
theorem op_gAdd : OpR X (binaryOp .Add) gAdd := by
  intro pins s σ H x y v u Q I rx ry h
  unfold gAdd at h
  split at h
  · exact op_add pins s σ _ _ _ v u Q I rx ry ⟨_, _, rfl, rfl, h⟩
  · exact op_add_str pins s σ _ _ _ v u Q I rx ry ⟨_, _, rfl, rfl, h.1, h.2⟩
  · obtain ⟨xs, zs, h1, h2, h3, h4⟩ := h
    exact op_cat pins s σ _ _ _ v u Q I rx ry ⟨_, _, xs, zs, rfl, rfl, h1, h2, h3, h4⟩
  · exact h.elim
def gMul : R2
  | .int i, .int j, H, Q => ((-(2 ^ 64) < i ∧ i < 2 ^ 64) ∨ (-(2 ^ 64) < j ∧ j < 2 ^ 64)) ∧ Q (.int (i * j)) H
  | .str z, .int n, H, Q => (n = 0 ∨ n = 1) ∧ Q (.str (if n = 1 then z else Str.empty)) H
  | .ref a, .int k, H, Q => ∃ xs, H a = some (.lst xs) ∧ -(2 ^ 63) ≤ k ∧ k < 2 ^ 63 ∧ xs.length * k.toNat ≤ sizeLine ∧ ∀ p, H p = none → Q (.ref p) (upd H p (.lst ((List.replicate k.toNat xs).flatten)))
  | _, _, _, _ => False
theorem op_gMul : OpR X (binaryOp .Mult) gMul := by
  intro pins s σ H x y v u Q I rx ry h
  unfold gMul at h
  split at h
  · exact op_mul pins s σ _ _ _ v u Q I rx ry ⟨_, _, rfl, rfl, h.1, h.2⟩
  · rename_i z n
    obtain ⟨hn, q⟩ := h
    obtain ⟨t, rfl⟩ := rx
    obtain ⟨t', rfl⟩ := ry
    rcases hn with rfl | rfl
    · exact PySem.P.mul_str_none (by decide) (by decide) ⟨.str Str.empty, _, I.tok _, ⟨_, rfl⟩, q⟩
    · refine PySem.P.mul_str (by decide) (fun _ z => by simp at z) (fun _ z => by simp at z) ?_
      exact ⟨.str z, _, I, ⟨_, rfl⟩, q⟩
  · obtain ⟨xs, h1, h2, h3, h4, h5⟩ := h
    exact op_rep pins s σ _ _ _ v u Q I rx ry ⟨_, _, xs, rfl, rfl, h1, h2, h3, h4, h5⟩
  · exact h.elim
/-- == : flat values; else data of any depth -/
def gEq (K : PySem.W.Frag) : R2 := fun x y H Q => if flatV x && flatV y then Q (.bl (eqV x y)) H else rEqD K x y H Q
def gNe (K : PySem.W.Frag) : R2 := fun x y H Q => if flatV x && flatV y then Q (.bl (!eqV x y)) H else rNeD K x y H Q
theorem flat_eqv {K : PySem.W.Frag} {H : Hp} {x y : V} (hx : flatV x = true) (hy : flatV y = true) :
    (scal x y = true ∧ decide (x = y) = eqV x y) ∨ ∃ d e, Dp K H x d ∧ Dp K H y e ∧ SeqAt.shaped d = true ∧ SeqAt.shaped e = true ∧ PyData.eqv d e = eqV x y := by
  cases x <;> first | (cases hx; done) | skip
  all_goals (cases y <;> first | (cases hy; done) | skip)
  case bl.int b i => exact .inr ⟨_, _, .bl b, .int i, by cases b <;> decide, rfl, rfl⟩
  case int.bl i b => exact .inr ⟨_, _, .int i, .bl b, rfl, by cases b <;> decide, rfl⟩
  all_goals refine .inl ⟨rfl, ?_⟩
  all_goals first
    | rfl
    | exact dec_int
    | exact dec_bl
    | exact dec_str
theorem op_gEq (hu : X.A.units + 64 < cLine) : OpR X (compareOp .Eq) (gEq X.K) := by
  intro pins s σ H x y v u Q I rx ry h
  unfold gEq at h
  split at h
  · rename_i c
    obtain ⟨c1, c2⟩ := Bool.and_eq_true_iff.mp c
    rcases flat_eqv (K := X.K) (H := H) c1 c2 with ⟨h1, h2⟩ | ⟨d, e, h1, h2, h3, h4, h5⟩
    · exact op_eq pins s σ _ _ _ v u Q I rx ry ⟨h1, by rw [h2]; exact h⟩
    · exact op_eqD hu pins s σ _ _ _ v u Q I rx ry ⟨d, e, h1, h2, h3, h4, by rw [h5]; exact h⟩
  · exact op_eqD hu pins s σ _ _ _ v u Q I rx ry h
theorem op_gNe (hu : X.A.units + 64 < cLine) : OpR X (compareOp .NotEq) (gNe X.K) := by
  intro pins s σ H x y v u Q I rx ry h
  unfold gNe at h
  split at h
  · rename_i c
    obtain ⟨c1, c2⟩ := Bool.and_eq_true_iff.mp c
    rcases flat_eqv (K := X.K) (H := H) c1 c2 with ⟨h1, h2⟩ | ⟨d, e, h1, h2, h3, h4, h5⟩
    · exact op_ne pins s σ _ _ _ v u Q I rx ry ⟨h1, by rw [h2]; exact h⟩
    · exact op_neD hu pins s σ _ _ _ v u Q I rx ry ⟨d, e, h1, h2, h3, h4, by rw [h5]; exact h⟩
  · exact op_neD hu pins s σ _ _ _ v u Q I rx ry h
/-- abs, int(..) -/
def gAbs : List V → Hp → VK → Prop
  | [.int i], H, Q => Q (.int (i.natAbs : Int)) H
  | _, _, _ => False
theorem call_gAbs : CallR X (.builtin "abs") gAbs := by
  intro pins s σ H xs us Q I r h
  unfold gAbs at h
  split at h
  · rename_i i
    refine call_abs pins s σ _ _ us Q I r ⟨i, rfl, ?_⟩
    have e : (if i < 0 then -i else i) = (i.natAbs : Int) := by split <;> omega
    rw [e]
    exact h
  · exact h.elim
def gInt : List V → Hp → VK → Prop
  | [.int i], H, Q => Q (.int i) H
  | [.bl k], H, Q => Q (.int (if k then 1 else 0)) H
  | _, _, _ => False
theorem call_gInt : CallR X (.type "int") gInt := by
  intro pins s σ H xs us Q I r h
  unfold gInt at h
  split at h
  · exact call_int1 pins s σ _ _ us Q I r (.inl ⟨_, rfl, h⟩)
  · exact call_int1 pins s σ _ _ us Q I r (.inr ⟨_, rfl, h⟩)
  · exact h.elim
end
end G
namespace G
open PySem PySem.Spec PyProof.Rows L2
open He (ga ma fAd Fa DefD SaysD)
/-! ## what the top has written, by names -/
/-- what isinstance asks of an error's class -/
def excB (K : PySem.W.Frag) (D : Addr) : Bool :=
  (decide (PySem.W.findIn K (.ref D) "__getattribute__" = some (some (.builtin "BaseException.__getattribute__"))) && (decide (PySem.W.findIn K (.ref D) "__getattr__" = some none) && (decide (PySem.W.subIn K (.ref D) (.type "BaseException") = some true) && PySem.W.hasDictIn K D))) &&
  (decide (PySem.W.findIn K (.ref D) "__class__" = some (some (.builtin "object.__class__"))) && (decide (PySem.W.specialIn K (.builtin "object.__class__") "__get__" = some (some (.builtin "getset_descriptor.__get__"))) &&
    (decide (PySem.W.takesIn K (.builtin "object.__class__") = some true) && decide (PySem.W.mroIn K D (.type "object") = some true))))
theorem excB_ok {K : PySem.W.Frag} {D : Addr} (h : excB K D = true) : ExcC K D := by
  obtain ⟨h1, h2⟩ := He.ba h
  obtain ⟨a1, h1⟩ := He.ba h1
  obtain ⟨a2, h1⟩ := He.ba h1
  obtain ⟨a3, a4⟩ := He.ba h1
  obtain ⟨b1, h2⟩ := He.ba h2
  obtain ⟨b2, h2⟩ := He.ba h2
  obtain ⟨b3, b4⟩ := He.ba h2
  exact ⟨of_decide_eq_true a1, of_decide_eq_true a2, of_decide_eq_true a3, a4, of_decide_eq_true b1, of_decide_eq_true b2, of_decide_eq_true b3, of_decide_eq_true b4⟩
/-- d is a class under c -/
def under (d c : Str) : Bool := d == c || c == "KeepError"
/-- a class of the module, no text -/
structure ClN (K : PySem.W.Frag) (C : Addr) : Prop where
  ha : PySem.W.findIn K (.ref C) "__class__" = some (some (.builtin "object.__class__"))
  hn : PySem.W.specialIn K (.builtin "object.__class__") "__get__" = some (some (.builtin "getset_descriptor.__get__"))
  htk : PySem.W.takesIn K (.builtin "object.__class__") = some true
  hm : PySem.W.mroIn K C (.type "object") = some true
  no : PySem.W.kitOne K (.ref C) (.type "str") = some false
def clB (K : PySem.W.Frag) (C : Addr) : Bool := (decide (PySem.W.findIn K (.ref C) "__class__" = some (some (.builtin "object.__class__"))) && (decide (PySem.W.specialIn K (.builtin "object.__class__") "__get__" = some (some (.builtin "getset_descriptor.__get__"))) &&
  (decide (PySem.W.takesIn K (.builtin "object.__class__") = some true) && (decide (PySem.W.mroIn K C (.type "object") = some true) && decide (PySem.W.kitOne K (.ref C) (.type "str") = some false)))))
theorem clB_ok {K : PySem.W.Frag} {C : Addr} (h : clB K C = true) : ClN K C := by
  obtain ⟨h1, h⟩ := He.ba h
  obtain ⟨h2, h⟩ := He.ba h
  obtain ⟨h3, h⟩ := He.ba h
  obtain ⟨h4, h5⟩ := He.ba h
  exact ⟨of_decide_eq_true h1, of_decide_eq_true h2, of_decide_eq_true h3, of_decide_eq_true h4, of_decide_eq_true h5⟩
structure XL where
  (ex cl : List Str)
/-- the errors' classes, and others -/
def exOk1 (L : List Str) (K : PySem.W.Frag) : Bool := L.all fun d => excB K (ga K d) && (decide (PySem.W.kitOne K (.ref (ga K d)) (.type "ValueError") = some true) &&
  (L.all fun c => decide (PySem.W.kitOne K (.ref (ga K d)) (.ref (ga K c)) = some (under d c)) && decide (PySem.W.exmOne K (.ref (ga K d)) (.ref (ga K c)) = some (under d c))))
def exOk (L : XL) (K : PySem.W.Frag) : Bool := exOk1 L.ex K && L.cl.all fun c => clB K (ga K c)
structure Told (fa : List Fa) (fn : List DefD) (xl : XL) (K : PySem.W.Frag) (mg : Str → Option Value) : Prop where
  ex : ∃ h : Heap, K.In h ∧ h.Ns mainGlobals mg
  says : SaysD fa fn K
  errs : exOk xl K = true
/-- what an object names, but for its class and the classes over it -/
def refsX (o : Obj) : List Addr := (match o.data with
  | .seq its _ => its.toList.flatMap He.refV
  | .dict es _ => es.toList.flatMap fun e => He.refV e.val
  | .func fd => He.refV fd.code ++ He.refV fd.defaults ++ He.refV fd.kwdefaults ++ fd.closure.map (·.2)
  | .cls cd => [cd.ns]
  | .fields vs => vs.toList.flatMap He.refV
  | .cell (some v) => He.refV v
  | _ => []) ++ match o.dict with
  | some d => [d]
  | none => []
def nextX (g : Addr → Option Obj) (as : List Addr) : List Addr := as.flatMap fun a => match g a with
  | some o => refsX o
  | none => []
/-- what the module's names lead to, level by level -/
def asX (g : Addr → Option Obj) : Nat → List Addr → List Addr
  | 0, as => as
  | n + 1, as => as ++ asX g n (nextX g as)
/-- the head's look -/
def lookG (n : Nat) (fa : List Fa) (fn : List DefD) (xl : XL) (g : Addr → Option Obj) : He.AlD × Bool := (He.obsD fa fn (He.frG g (asX g n [mainGlobals])), exOk xl (He.frG g (asX g n [mainGlobals])))
def hookG (n : Nat) (fa : List Fa) (fn : List DefD) (xl : XL) : PySem.W.Hook where
  α := He.AlD × Bool
  obs := fun s => lookG n fa fn xl s.heap.get?
  val := fun _ => (He.valD fn, true)
  says := fun _ h => ∃ K : PySem.W.Frag, K.In h ∧ SaysD fa fn K ∧ exOk xl K = true
  of := fun _ _ e => ⟨_, He.frG_in, congrArg (fun z : He.AlD × Bool => z.1) e, congrArg (fun z : He.AlD × Bool => z.2) e⟩
  keeps := fun _ _ _ ⟨K, hK, c⟩ k => ⟨K, PySem.W.Frag.In.keeps hK k, c⟩
theorem lookG_eq {n : Nat} {fa : List Fa} {fn : List DefD} {xl : XL} {g : Addr → Option Obj} {s : Shared} (h : ∀ a, g a = s.heap.get? a) : lookG n fa fn xl g = (hookG n fa fn xl).obs s := by
  have e : g = s.heap.get? := funext h
  rw [e]
  rfl
section
variable {fa : List Fa} {fn : List DefD} {xl : XL} {K : PySem.W.Frag} {mg : Str → Option Value}
theorem Told.glo (T : Told fa fn xl K mg) (i : Nat) {x : Str} (h : fa[i]? = some (.glo x) := by rfl) : mg x = some (.ref (ga K x)) := let ⟨_, X, N⟩ := T.ex; He.glo_ok X N (T.says.fact i h)
theorem Told.free (T : Told fa fn xl K mg) (i : Nat) {x : Str} (h : fa[i]? = some (.free x) := by rfl) : mg x = none := let ⟨_, X, N⟩ := T.ex; He.free_ok X N (T.says.fact i h)
theorem Told.num (T : Told fa fn xl K mg) (i : Nat) {x : Str} {n : Int} (h : fa[i]? = some (.int x n) := by rfl) : ∃ t, mg x = some (.int n t) := let ⟨_, X, N⟩ := T.ex; He.int_ok X N (T.says.fact i h)
theorem Told.txt (T : Told fa fn xl K mg) (i : Nat) {x z : Str} (h : fa[i]? = some (.str x z) := by rfl) : ∃ t, mg x = some (.str z t) := let ⟨_, X, N⟩ := T.ex; He.str_ok X N (T.says.fact i h)
theorem Told.err (T : Told fa fn xl K mg) {d : Str} (h : d ∈ xl.ex) : ExcC K (ga K d) ∧ PySem.W.kitOne K (.ref (ga K d)) (.type "ValueError") = some true ∧
    ∀ c ∈ xl.ex, PySem.W.kitOne K (.ref (ga K d)) (.ref (ga K c)) = some (under d c) ∧ PySem.W.exmOne K (.ref (ga K d)) (.ref (ga K c)) = some (under d c) := by
  obtain ⟨h1, h2⟩ := He.ba (List.all_eq_true.mp (He.ba T.errs).1 d h)
  obtain ⟨h3, h4⟩ := He.ba h2
  refine ⟨excB_ok h1, of_decide_eq_true h3, fun c hc => ?_⟩
  obtain ⟨h5, h6⟩ := He.ba (List.all_eq_true.mp h4 c hc)
  exact ⟨of_decide_eq_true h5, of_decide_eq_true h6⟩
theorem Told.cln (T : Told fa fn xl K mg) {c : Str} (h : c ∈ xl.cl) : ClN K (ga K c) := clB_ok (List.all_eq_true.mp (He.ba T.errs).2 c h)
/-- isinstance(e, c) of an error of class d -/
theorem Told.isE (T : Told fa fn xl K mg) {d c : Str} {a : Addr} {H : Hp} {Q : VK} (ha : H a = some (ExA (.ref (ga K d)) a)) (hd : d ∈ xl.ex) (hc : c ∈ xl.ex) (q : Q (.bl (under d c)) H) : gIsE K [.ref a, .ref (ga K c)] H Q :=
  ⟨_, _, _, ha, (T.err hd).1, .own _, ((T.err hd).2.2 c hc).1, q⟩
theorem Told.isY (T : Told fa fn xl K mg) {d c : Str} {a : Addr} {H : Hp} {Q : VK} (ha : H a = some (ExA (.ref (ga K d)) a)) (hd : d ∈ xl.ex) (hc : c ∈ xl.ex) (e : under d c = true) (q : Q (.bl true) H) : gIsE K [.ref a, .ref (ga K c)] H Q := T.isE ha hd hc (e ▸ q)
theorem Told.isN (T : Told fa fn xl K mg) {d c : Str} {a : Addr} {H : Hp} {Q : VK} (ha : H a = some (ExA (.ref (ga K d)) a)) (hd : d ∈ xl.ex) (hc : c ∈ xl.ex) (e : under d c = false) (q : Q (.bl false) H) : gIsE K [.ref a, .ref (ga K c)] H Q := T.isE ha hd hc (e ▸ q)
theorem Told.isV (T : Told fa fn xl K mg) {d : Str} {a : Addr} {H : Hp} {Q : VK} (ha : H a = some (ExA (.ref (ga K d)) a)) (hd : d ∈ xl.ex) (q : Q (.bl true) H) : gIsE K [.ref a, .ty "ValueError"] H Q :=
  ⟨_, _, _, ha, (T.err hd).1, .ty _, (T.err hd).2.1, q⟩
end
section
variable {fa : List Fa} {fn : List DefD} {xl : XL} {K : PySem.W.Frag} {mg : Str → Option Value}
/-- an error of class d reaches «except c», c over it -/
theorem Told.caught (T : Told fa fn xl K mg) {d c : Str} {i : Nat} {ts : TS} {Wo : WX} {D : Ends} {σ : L2.St} {H : Hp} (hd : d ∈ xl.ex) (hc : c ∈ xl.ex) (hu : under d c = true)
    (h : ∀ a, H a = none → ts { nx := fun σ' H' => D.nx (σ'.set i none) H', rt := D.rt, bk := fun σ' H' => D.bk (σ'.set i none) H', ct := fun σ' H' => D.ct (σ'.set i none) H' } (σ.set i (some (.ref a))) (upd H a (ExA (.ref (ga K d)) a))) :
    wTr K (.ref (ga K c)) i ts Wo D (.ref (ga K d)) none σ H :=
  ⟨true, by rw [((T.err hd).2.2 c hc).2, hu], fun _ => ⟨rfl, h⟩, fun z => by cases z⟩
end
/-- the function object at f -/
def fdAt (K : PySem.W.Frag) (f : Addr) : FuncData := match K.lookup f with
  | some ⟨_, _, .func fd, _⟩ => fd
  | _ => PySem.W.fnOf "" "" { posonlyargs := [], args := [], vararg := none, kwonlyargs := [], kw_defaults := [], kwarg := none, defaults := [] } [] { kind := .function, names := [], isGenerator := false, isCoroutine := false } .none .none .none .none none .none .none
theorem fdAt_of {K : PySem.W.Frag} {x qual : Str} {params : Arguments} {body : List Stmt} {scope : Scope} {dvs : List V} {kws : List (Str × V)} {f : Addr} {fd : FuncData} (F : FunD K x qual params body scope dvs kws f fd) : fd = fdAt K f := by
  obtain ⟨oc, od, dV, kV, doc, pm, an, cdv, ct, osl, rfl, lk, -⟩ := F.ex
  unfold fdAt
  rw [lk]
/-- every argument is given -/
def Bnd (fd : FuncData) (ps : List Str) : Prop := ∀ (s : Shared) (us : List Value), us.length = ps.length → BindsTo s fd ⟨us, []⟩ (ps.zip us)
theorem Bnd.to {K : PySem.W.Frag} {fd : FuncData} {ps : List Str} (b : Bnd fd ps) : Binds K fd ps [] := fun s us _ hl => by
  rw [List.append_nil] at hl ⊢
  exact b s us hl
/-- a def of the module: its promise sp -/
structure Fn (P : Program) (w : World) (K : PySem.W.Frag) (mg : Str → Option Value) (base : Heap) (k : Nat) (x : Str) (ps : List Str) (sp : Sp) : Prop where
  ok : FnOk P w K mg base (L2.CX P w) k (ga K x) (fdAt K (ga K x)) ps sp
  bd : Bnd (fdAt K (ga K x)) ps
  kp : PySem.W.keepIn K (.ref (ga K x)) = true
  at_ : mg x = some (.ref (ga K x))
/-- nothing is raised -/
theorem quiet {P : Program} {w : World} {K : PySem.W.Frag} {mg : Str → Option Value} {base : Heap} {k : Nat} {f : Addr} {fd : FuncData} {ps : List Str} {sp : Sp} (F : FnOk P w K mg base (L2.CX P w) k f fd ps sp) (h0 : ∀ vs H Q E, sp vs H Q E → sp vs H Q E0) : FnOk P w K mg base CX0 k f fd ps sp :=
  ⟨F.len, fun A outer s H args us vs Q E hr e0 hb r hsp => codeAny_mono (F.run A outer s H args us vs Q E0 hr e0 hb r (h0 _ _ _ _ hsp)) fun r s' hq => by
    cases r with
    | error e =>
      obtain ⟨_, _, _, _, _, _, _, _, _, _, _, _, y⟩ := hq
      exact y.elim
    | ok fl => cases fl with
      | ret u => exact hq
      | next => exact hq.elim
      | brk => exact hq.elim
      | cont => exact hq.elim⟩
/-- .. that may be called in an except suite, too -/
structure FnH (P : Program) (w : World) (K : PySem.W.Frag) (mg : Str → Option Value) (base : Heap) (k : Nat) (x : Str) (ps : List Str) (sp : Sp) : Prop where
  ok : FnN P w K mg base k (ga K x) (fdAt K (ga K x)) ps sp
  bd : Bnd (fdAt K (ga K x)) ps
  kp : PySem.W.keepIn K (.ref (ga K x)) = true
  at_ : mg x = some (.ref (ga K x))
section
variable {fa : List Fa} {fn : List DefD} {xl : XL} {P : Program} {w : World} {K : PySem.W.Frag} {mg : Str → Option Value} {base : Heap}
theorem Told.mkFn (T : Told fa fn xl K mg) (i j : Nat) {d : DefD} {x : Str} {N ps : List Str} {k : Nat} {sp : Sp} (hd : fn[i]? = some d) (hx : d.at_ = (x, none)) (h0 : d.dfl = []) (h1 : d.kwd = []) (hg : fa[j]? = some (.glo x)) (S : FnScope N ps d.scope)
    (bnd : ∀ (kV doc pm : Value) (an : Option Addr) (cdv ct : Value) (us : List Value), us.length = ps.length → bindArgs (PySem.W.fnOf d.name d.qual d.params d.body d.scope .none kV doc pm an cdv ct) ⟨us, []⟩ = pure (ps.zip us))
    (len : ∀ vs H Q E, sp vs H Q E → vs.length = ps.length)
    (body : ∀ (cdv : Value) (A : Around) (outer : List Env) (s : Shared) (H : Hp) (vs : List V) (Q : VK) (E : XK), Room k (A.deeper (envOfC d.qual d.scope s.heap.objs.size (ga K x) cdv)) → sp vs H Q E →
      ∃ t, PSs (cxOf (L2.CX P w) P w K mg base N d.qual d.scope (ga K x) cdv A outer s H E) d.body t ∧ t { nx := fun _ H' => Q .non H', rt := Q } (start N vs) H) : Fn P w K mg base (k + 1) x ps sp := by
  obtain ⟨fd, F⟩ := T.says.def_ i hd
  have e : fAd K d.at_ = ga K x := by rw [hx]; rfl
  have e0 : d.dvs K = [] := by unfold DefD.dvs; rw [h0]; rfl
  have e1 : d.kws K = [] := by unfold DefD.kws; rw [h1]; rfl
  rw [e, e0, e1] at F
  have ef := fdAt_of F
  subst ef
  exact ⟨F.ok S len body, F.bindsA bnd, F.kp, T.glo j hg⟩
theorem Told.mkFnH (T : Told fa fn xl K mg) (i j : Nat) {d : DefD} {x : Str} {N ps : List Str} {k : Nat} {sp : Sp} (hd : fn[i]? = some d) (hx : d.at_ = (x, none)) (h0 : d.dfl = []) (h1 : d.kwd = []) (hg : fa[j]? = some (.glo x)) (S : FnScope N ps d.scope)
    (bnd : ∀ (kV doc pm : Value) (an : Option Addr) (cdv ct : Value) (us : List Value), us.length = ps.length → bindArgs (PySem.W.fnOf d.name d.qual d.params d.body d.scope .none kV doc pm an cdv ct) ⟨us, []⟩ = pure (ps.zip us))
    (len : ∀ vs H Q E, sp vs H Q E → vs.length = ps.length)
    (body : ∀ (cdv : Value) (A : Around) (outer : List Env) (s : Shared) (H : Hp) (vs : List V) (Q : VK), RoomN k (A.deeper (envOfC d.qual d.scope s.heap.objs.size (ga K x) cdv)) → sp vs H Q E0 →
      ∃ t, PSs (cxN P w K mg base N d.qual d.scope (ga K x) cdv A outer s H) d.body t ∧ t { nx := fun _ H' => Q .non H', rt := Q } (start N vs) H) : FnH P w K mg base (k + 1) x ps sp := by
  obtain ⟨fd, F⟩ := T.says.def_ i hd
  have e : fAd K d.at_ = ga K x := by rw [hx]; rfl
  have e0 : d.dvs K = [] := by unfold DefD.dvs; rw [h0]; rfl
  have e1 : d.kws K = [] := by unfold DefD.kws; rw [h1]; rfl
  rw [e, e0, e1] at F
  have ef := fdAt_of F
  subst ef
  exact ⟨fn_ofN F S len body, F.bindsA bnd, F.kp, T.glo j hg⟩
end
section
variable {X : Cx} {k : Nat} {ps : List Str} {sp : Sp} {W : WX} {x : Str} {p pos : Pos} {e : Expr} {es : List Expr} {t : TA}
theorem pe_fn (tk : Takes X W) (F : Fn X.prog X.w X.K X.mg X.base k x ps sp) (hr : Room k X.A) (hg : Gl X x) (ha : PA X (e :: es) t) (hdb : (x == ("__debug__" : Str)) = false := by decide)
    (he : starEach (e :: es) X.env = (false, eval e X.env) :: starEach es X.env := by rfl) (hpl : (backTo pos (starEach es X.env)).any (·.1) = false := by rfl) : PE X (.Call (.Name x p) (e :: es) [] pos) (tCallW sp W t) := by
  exact pe_callW tk F.ok hr hg F.at_ F.kp F.bd.to ha hdb he hpl
theorem pe_fn0 (tk : Takes X W) (F : Fn X.prog X.w X.K X.mg X.base k x ps sp) (hr : Room k X.A) (hg : Gl X x) (hdb : (x == ("__debug__" : Str)) = false := by decide) : PE X (.Call (.Name x p) [] [] pos) (tCallW sp W tNil) := by
  exact pe_callW0 tk F.ok hr hg F.at_ F.kp F.bd.to hdb
theorem pe_fnH (F : FnH X.prog X.w X.K X.mg X.base k x ps sp) (hr : RoomN k X.A) (hg : Gl X x) (ha : PA X (e :: es) t) (hdb : (x == ("__debug__" : Str)) = false := by decide)
    (he : starEach (e :: es) X.env = (false, eval e X.env) :: starEach es X.env := by rfl) (hpl : (backTo pos (starEach es X.env)).any (·.1) = false := by rfl) : PE X (.Call (.Name x p) (e :: es) [] pos) (tCallN sp t) := by
  exact pe_callN F.ok hr hg F.at_ F.kp F.bd.to ha hdb he hpl
theorem call_gLen : CallR X (.builtin "len") (L2.rLen X.K) := call_len
theorem call_lenK {K : PySem.W.Frag} (hK : X.K = K) : CallR X (.builtin "len") (L2.rLen K) := hK ▸ call_len
theorem op_eqK {K : PySem.W.Frag} (hK : X.K = K) (hu : X.A.units + 64 < cLine) : OpR X (compareOp .Eq) (gEq K) := hK ▸ op_gEq hu
theorem op_neK {K : PySem.W.Frag} (hK : X.K = K) (hu : X.A.units + 64 < cLine) : OpR X (compareOp .NotEq) (gNe K) := hK ▸ op_gNe hu
theorem ix_seqK {K : PySem.W.Frag} (hK : X.K = K) : IxR X (rIx K) := hK ▸ ix_seq
theorem call_isEK {K : PySem.W.Frag} (hK : X.K = K) : CallR X (.builtin "isinstance") (gIsE K) := hK ▸ call_gIsE
theorem sl_listK {K : PySem.W.Frag} (hK : X.K = K) : SlR X (rSlL K) := hK ▸ sl_list
theorem pi_listK {K : PySem.W.Frag} {tg l : Expr} {tl : TE} (hK : X.K = K) (h : PE X l tl) : PI X tg l (iList K tl) := hK ▸ pi_list h
def rListG (K : PySem.W.Frag) : List V → Hp → VK → Prop := fun xs H Q => ∃ p ys, xs = [.ref p] ∧ (SqL K H p ys ∨ SqT K H p ys) ∧ ∀ l, H l = none → Q (.ref l) (upd H l (.lst ys))
theorem call_listK {K : PySem.W.Frag} (hK : X.K = K) : CallR X (.type "list") (rListG K) := hK ▸ call_list_of
theorem pe_clsK {K : PySem.W.Frag} (hK : X.K = K) (h : X.mg x = some (.ref (ga K x))) (hg : Gl X x) (hdb : (x == ("__debug__" : Str)) = false := by decide) : PE X (.Name x pos) (tC (.ref (ga K x))) := pe_glob hg h rfl hdb
/-- a constant of the module -/
theorem pe_num {n : Int} (h : ∃ t, X.mg x = some (.int n t)) (hg : Gl X x) (hdb : (x == ("__debug__" : Str)) = false := by decide) : PE X (.Name x pos) (tC (.int n)) := by
  obtain ⟨t, e⟩ := h
  exact pe_glob hg e ⟨t, rfl⟩ hdb
theorem pe_txt {z : Str} (h : ∃ t, X.mg x = some (.str z t)) (hg : Gl X x) (hdb : (x == ("__debug__" : Str)) = false := by decide) : PE X (.Name x pos) (tC (.str z)) := by
  obtain ⟨t, e⟩ := h
  exact pe_glob hg e ⟨t, rfl⟩ hdb
/-- a class of the module as a value; a built-in class -/
theorem pe_cls (h : X.mg x = some (.ref (ga X.K x))) (hg : Gl X x) (hdb : (x == ("__debug__" : Str)) = false := by decide) : PE X (.Name x pos) (tC (.ref (ga X.K x))) := pe_glob hg h rfl hdb
theorem pe_ty {T : String} (hm : X.mg x = none) (hv : bootBuiltins x = some (.type T)) (hg : Gl X x) (hn : x ≠ "__name__" := by decide) (hdb : (x == ("__debug__" : Str)) = false := by decide) : PE X (.Name x pos) (tC (.ty T)) := pe_bltn hg hm hv rfl hn hdb
/-- raise C('..') -/
def tRaise (C : Addr) (W : WX) : TS := fun _ σ H => W (.ref C) none σ H
theorem ps_raiseK {K : PySem.W.Frag} {m : Str} {j : Nat} {p2 pos2 : Pos} (hK : X.K = K) (hc : X.calm = true) (tk : Takes X W) (h : (Fa.exc x).ok K = true) (hm : X.mg x = some (.ref (ga K x))) (hg : Gl X x) (hdb : (x == ("__debug__" : Str)) = false := by decide) :
    PS X (.Raise (some (.Call (.Name x p) [.Constant (.str m) j p2] [] pos)) none pos2) (tRaise (ga K x) W) := by
  subst hK
  obtain ⟨h1, h2, h3, h4⟩ := He.exc_ok h
  exact ps_raise hc tk (pmk_own PySem.F.excBase_ValueError h1 hm h2 (raises_own h3 h4) hg hdb)
theorem ps_raiseW {m : Str} {j : Nat} {p2 pos2 : Pos} (hc : X.calm = true) (tk : Takes X W) (h : (Fa.exc x).ok X.K = true) (hm : X.mg x = some (.ref (ga X.K x))) (hg : Gl X x) (hdb : (x == ("__debug__" : Str)) = false := by decide) :
    PS X (.Raise (some (.Call (.Name x p) [.Constant (.str m) j p2] [] pos)) none pos2) (tRaise (ga X.K x) W) := by
  obtain ⟨h1, h2, h3, h4⟩ := He.exc_ok h
  exact ps_raise hc tk (pmk_own PySem.F.excBase_ValueError h1 hm h2 (raises_own h3 h4) hg hdb)
end

/-! ## readings, step by step -/
section
variable {σ : L2.St} {H : Hp} {Q : VK} {QT : Bool → Hp → Prop} {QA : List V → Hp → Prop} {D : Ends} {v x y z : V} {i : Nat} {o : Option V} {ta tb te tc : TE} {t u c : TT} {ts us : TS} {as : TA} {r r' : R2} {g : TG} {b : Bool}
theorem x_K {CX : CXT} {P : Program} {w : World} {K : PySem.W.Frag} {mg : Str → Option Value} {base : Heap} {N : List Str} {qual : Str} {scope : Scope} {f : Addr} {cd : Value} {A : Around} {outer : List Env} {s : Shared} {E : XK} : (cxOf CX P w K mg base N qual scope f cd A outer s H E).K = K := rfl
theorem x_var0 : tVar 0 (some v :: σ) H Q = Q v H := propext ⟨fun ⟨_, e, q⟩ => by cases e; exact q, fun q => ⟨v, rfl, q⟩⟩
theorem x_varS : tVar (i + 1) (o :: σ) H Q = tVar i σ H Q := rfl
theorem x_c : tC v σ H Q = Q v H := rfl
theorem x_op : tOp r ta tb σ H Q = ta σ H fun x H1 => tb σ H1 fun y H2 => r x y H2 Q := rfl
theorem x_un {r : V → Hp → VK → Prop} : tUn r ta σ H Q = ta σ H fun x H1 => r x H1 Q := rfl
theorem x_cb {r : List V → Hp → VK → Prop} : tCB r as σ H Q = as σ H fun vs H1 => r vs H1 Q := rfl
theorem x_nil : tNil σ H QA = QA [] H := rfl
theorem x_cons : tCons te as σ H QA = te σ H fun x H1 => as σ H1 fun xs H2 => QA (x :: xs) H2 := rfl
theorem x_test : tTest te σ H QT = te σ H fun x H1 => ∃ k, x = .bl k ∧ QT k H1 := rfl
theorem x_b : tB te σ H QT = te σ H fun x H1 => ∃ k, x = .bl k ∧ QT k H1 := rfl
theorem x_ex {P : Bool → Prop} : (∃ k, V.bl b = .bl k ∧ P k) = P b := propext ⟨fun ⟨_, e, q⟩ => by cases e; exact q, fun q => ⟨b, rfl, q⟩⟩
theorem x_and : tAnd t u σ H QT = t σ H fun c H1 => if c = true then u σ H1 QT else QT false H1 := rfl
theorem x_or : tOr t u σ H QT = t σ H fun c H1 => if c = true then QT true H1 else u σ H1 QT := rfl
theorem x_not : tNot t σ H QT = t σ H fun c H1 => QT (!c) H1 := rfl
theorem x_andV : tAndV ta tb σ H Q = ta σ H fun x H1 => ∃ c, x = .bl c ∧ if c = true then tb σ H1 Q else Q (.bl false) H1 := rfl
theorem x_orV : tOrV ta tb σ H Q = ta σ H fun x H1 => ∃ c, x = .bl c ∧ if c = true then Q (.bl true) H1 else tb σ H1 Q := rfl
theorem x_notV : tNotV ta σ H Q = ta σ H fun x H1 => ∃ c, x = .bl c ∧ Q (.bl (!c)) H1 := rfl
theorem x_tif : tIf t ta tb σ H Q = t σ H fun c H1 => if c = true then ta σ H1 Q else tb σ H1 Q := rfl
theorem x_chain : tChain r r' ta tb tc σ H Q = ta σ H fun x H1 => tb σ H1 fun y H2 => r x y H2 fun z H3 => ∃ k, z = .bl k ∧ (if k = true then tc σ H3 fun u H4 => r' y u H4 Q else Q (.bl false) H3) := rfl
theorem x_menu : tMenu as te σ H Q = as σ H fun xs H1 => xs.length ≤ sizeLine ∧ te σ H1 fun y H2 => ∃ i v, y = .int i ∧ atI xs i = some v ∧ Q v H2 := rfl
theorem x_menuI {xs : List V} {n : Int} {P : V → Prop} : (∃ i v, V.int n = .int i ∧ atI xs i = some v ∧ P v) = ∃ v, atI xs n = some v ∧ P v := propext ⟨fun ⟨_, w, e, q⟩ => by cases e; exact ⟨w, q⟩, fun ⟨w, q⟩ => ⟨n, w, rfl, q⟩⟩
theorem x_lst : tLst as σ H Q = as σ H fun xs H1 => xs.length ≤ sizeLine ∧ ∀ p, H1 p = none → Q (.ref p) (upd H1 p (.lst xs)) := rfl
theorem x_tup : tTup as σ H Q = as σ H fun xs H1 => xs.length ≤ sizeLine ∧ ∀ p, H1 p = none → Q (.ref p) (upd H1 p (.tup xs)) := rfl
theorem x_dnew : tDNewK σ H Q = ∀ p, H p = none → Q (.ref p) (upd H p (.dK [])) := rfl
theorem x_callW {sp : Sp} {W : WX} : tCallW sp W as σ H Q = as σ H fun vs H1 => sp vs H1 Q fun c d H2 => W c d σ H2 := rfl
theorem x_callN {sp : Sp} : tCallN sp as σ H Q = as σ H fun vs H1 => sp vs H1 Q E0 := rfl
theorem x_seq : tSeq ts us D σ H = ts { D with nx := us D } σ H := rfl
theorem x_next : tNext D σ H = D.nx σ H := rfl
theorem x_ret : tRet te D σ H = te σ H D.rt := rfl
theorem x_retN : tRetN D σ H = D.rt .non H := rfl
theorem x_drop : tDrop te D σ H = te σ H fun _ H1 => D.nx σ H1 := rfl
theorem x_ifS : tIfS c ts us D σ H = c σ H fun b H1 => if b = true then ts D σ H1 else us D σ H1 := rfl
theorem x_asg : tAsg te g D σ H = te σ H fun x H1 => g x σ H1 D.nx := rfl
theorem x_name {N : L2.St → Hp → Prop} : gName i v σ H N = N (σ.set i (some v)) H := rfl
theorem x_raise {C : Addr} {W : WX} : tRaise C W D σ H = W (.ref C) none σ H := rfl
theorem x_start {N : List Str} {n : Str} {vs : List V} : start (n :: N) (v :: vs) = some v :: start N vs := by
  unfold L2.start
  simp only [List.map_cons, List.length_cons, List.cons_append, Nat.add_sub_add_right]
theorem x_start0 {N : List Str} : start N [] = List.replicate N.length none := by
  unfold L2.start
  simp
theorem q_str {a b : Str} (q : Q (.str a) H) (e : a = b) : Q (.str b) H := e ▸ q
theorem r_i0 {g : Int → Int → V} {a b : Int} : rI0 g (.int a) (.int b) H Q = Q (g a b) H := propext ⟨fun ⟨_, _, e, e', q⟩ => by cases e; cases e'; exact q, fun q => ⟨a, b, rfl, rfl, q⟩⟩
theorem r_i {C : Int → Int → Prop} {g : Int → Int → V} {a b : Int} : rI C g (.int a) (.int b) H Q = (C a b ∧ Q (g a b) H) := propext ⟨fun ⟨_, _, e, e', q⟩ => by cases e; cases e'; exact q, fun q => ⟨a, b, rfl, rfl, q⟩⟩
theorem r_u {g : Int → V} {a : Int} : rU g (.int a) H Q = Q (g a) H := propext ⟨fun ⟨_, e, q⟩ => by cases e; exact q, fun q => ⟨a, rfl, q⟩⟩
theorem r_addI {a b : Int} : gAdd (.int a) (.int b) H Q = Q (.int (a + b)) H := rfl
theorem r_addS {a b : Str} : gAdd (.str a) (.str b) H Q = (a.length + b.length ≤ sizeLine ∧ Q (.str (a ++ b)) H) := rfl
theorem r_mulI {a b : Int} : gMul (.int a) (.int b) H Q = (((-(2 ^ 64) < a ∧ a < 2 ^ 64) ∨ (-(2 ^ 64) < b ∧ b < 2 ^ 64)) ∧ Q (.int (a * b)) H) := rfl
theorem r_mulS {a : Str} {b : Int} : gMul (.str a) (.int b) H Q = ((b = 0 ∨ b = 1) ∧ Q (.str (if b = 1 then a else Str.empty)) H) := rfl
theorem r_eqI {K : PySem.W.Frag} {a b : Int} : gEq K (.int a) (.int b) H Q = Q (.bl (decide (a = b))) H := by
  show (if true = true then Q (.bl (a == b)) H else rEqD K (.int a) (.int b) H Q) = _
  rw [if_pos (rfl : true = true), Bool.beq_eq_decide_eq]
theorem r_neI {K : PySem.W.Frag} {a b : Int} : gNe K (.int a) (.int b) H Q = Q (.bl (!decide (a = b))) H := by
  show (if true = true then Q (.bl (!(a == b))) H else rNeD K (.int a) (.int b) H Q) = _
  rw [if_pos (rfl : true = true), Bool.beq_eq_decide_eq]
theorem r_eqF {K : PySem.W.Frag} (hx : flatV x = true) (hy : flatV y = true) : gEq K x y H Q = Q (.bl (eqV x y)) H := by unfold gEq; rw [hx, hy]; rfl
theorem r_neF {K : PySem.W.Frag} (hx : flatV x = true) (hy : flatV y = true) : gNe K x y H Q = Q (.bl (!eqV x y)) H := by unfold gNe; rw [hx, hy]; rfl
theorem r_eqS {K : PySem.W.Frag} {a b : Str} : gEq K (.str a) (.str b) H Q = Q (.bl (decide (a = b))) H := by
  show (if true = true then Q (.bl (a == b)) H else rEqD K (.str a) (.str b) H Q) = _
  rw [if_pos (rfl : true = true), Bool.beq_eq_decide_eq]
theorem r_neS {K : PySem.W.Frag} {a b : Str} : gNe K (.str a) (.str b) H Q = Q (.bl (!decide (a = b))) H := by
  show (if true = true then Q (.bl (!(a == b))) H else rNeD K (.str a) (.str b) H Q) = _
  rw [if_pos (rfl : true = true), Bool.beq_eq_decide_eq]
theorem n_ten : Int.natAbs 10 < 18446744073709551616 := by decide
theorem c_div {i j : Int} : CDiv i j = (0 < j ∧ j < 1073741824) := rfl
theorem c_pow {i j : Int} : CPow i j = (0 ≤ j ∧ j ≤ 1000000 ∧ i.natAbs < 2 ^ 64) := rfl
theorem r_absI {a : Int} : gAbs [.int a] H Q = Q (.int (a.natAbs : Int)) H := rfl
theorem r_intI {a : Int} : gInt [.int a] H Q = Q (.int a) H := rfl
theorem r_intB {k : Bool} : gInt [.bl k] H Q = Q (.int (if k then 1 else 0)) H := rfl
theorem r_lenL {K : PySem.W.Frag} {a : Addr} {xs : List V} (h : H a = some (.lst xs)) (q : Q (.int (xs.length : Int)) H) : L2.rLen K [.ref a] H Q := ⟨_, _, rfl, .inl ⟨_, SqL.of h, rfl⟩, q⟩
end
end G
namespace G
open PySem PySem.Spec PyProof.Rows L2
open He (ga ma fAd Fa DefD SaysD)
/-! ## classes of the module: fields, methods, instances -/
section
variable {fa : List Fa} {fn : List DefD} {xl : XL} {K : PySem.W.Frag} {mg : Str → Option Value}
theorem Told.cls (T : Told fa fn xl K mg) (i : Nat) {x : Str} (h : fa[i]? = some (.cls x) := by rfl) : Cls K (ga K x) := He.cls_ok (T.says.fact i h)
theorem Told.noat (T : Told fa fn xl K mg) (i : Nat) {x f : Str} (h : fa[i]? = some (.noat x f) := by rfl) : NoAttr K (ga K x) f := He.noat_ok (T.says.fact i h)
end
/-- x holds v in its field f, an instance of the class at C -/
def FldIs (C : Addr) (f : Str) (x : V) (H : Hp) (v : V) : Prop := ∃ a dx fs, x = .ref a ∧ H a = some (.ins C dx fs) ∧ fs.lookup f = some v
theorem fldIs {C : Addr} {f : Str} {a dx : Addr} {H : Hp} {fs : List (Str × V)} {v : V} (h : H a = some (.ins C dx fs)) (e : fs.lookup f = some v := by rfl) : FldIs C f (.ref a) H v := ⟨a, dx, fs, rfl, h, e⟩
def gFld (C : Addr) (ta : TE) (f : Str) : TE := fun σ H Q => ta σ H fun x H1 => ∃ v, FldIs C f x H1 v ∧ Q v H1
def gSetF (C : Addr) (ta tv : TE) (f : Str) : TS := fun D σ H => tv σ H fun y H1 => ta σ H1 fun x H2 => ∃ a dx fs, x = .ref a ∧ H2 a = some (.ins C dx fs) ∧ fs.length < 1000 ∧ D.nx σ (upd H2 a (.ins C dx (putF f y fs)))
section
variable {X : Cx} {C : Addr} {o e value : Expr} {f : Str} {pos pos' : Pos} {ta tv : TE}
theorem pe_fldC (c : Cls X.K C) (n : NoAttr X.K C f) (he : PE X e ta) (hb : attributeBase e f X.env (eval e X.env) = eval e X.env := by rfl) : PE X (.Attribute e f pos) (gFld C ta f) := by
  refine ⟨fun pins s σ H Q I h => attr_of hb (thn (he.run pins s σ H _ I h) fun u s1 hh => ?_)⟩
  obtain ⟨x, H1, I1, rx, v, ⟨a, dx, fs, ex, ea, l⟩, q⟩ := hh
  subst ex
  obtain rfl : u = Value.ref a := rx
  exact getattr_ok I1 ea c n l fun _ _ I2 ru => ⟨v, H1, I2, ru, q⟩
theorem ps_fldC (c : Cls X.K C) (n : NoAttr X.K C f) (ha : PE X o ta) (hv : PE X value tv) (hs : swapsWith value (some (.Attribute o f pos')) pos.line X.env = pure false := by rfl) : PS X (.Assign [.Attribute o f pos'] value pos) (gSetF C ta tv f) := by
  refine ⟨fun pins s σ H D I h => plainObj_wpAny_Assign_Attribute (thn (hv.run pins s σ H _ I h) fun u s1 hh => ?_) hs⟩
  obtain ⟨y, H1, I1, ry, q⟩ := hh
  refine thn (ha.run pins s1 σ H1 _ I1 q) fun ov s2 h2 => ?_
  obtain ⟨x, H2, I2, rx, a, dx, fs, ex, ea, l, q2⟩ := h2
  subst ex
  obtain rfl : ov = Value.ref a := rx
  exact setattr_ok I2 ea c n l ry fun _ I3 => ⟨σ, _, I3, q2⟩
end
/-- a method of a class of the module: its promise -/
structure Mt (P : Program) (w : World) (K : PySem.W.Frag) (mg : Str → Option Value) (base : Heap) (k : Nat) (C m : Str) (ps : List Str) (sp : Sp) : Prop where
  ok : FnOk P w K mg base (L2.CX P w) k (ma K (ga K C) m) (fdAt K (ma K (ga K C) m)) ps sp
  bd : Bnd (fdAt K (ma K (ga K C) m)) ps
  me : Meth K (ga K C) m (ma K (ga K C) m)
  cl : Cls K (ga K C)
/-- the __init__ of a class -/
structure Mi (P : Program) (w : World) (K : PySem.W.Frag) (mg : Str → Option Value) (base : Heap) (k : Nat) (C : Str) (ps : List Str) (sp : Sp) : Prop where
  ok : FnOk P w K mg base (L2.CX P w) k (ma K (ga K C) "__init__") (fdAt K (ma K (ga K C) "__init__")) ps sp
  bd : Bnd (fdAt K (ma K (ga K C) "__init__")) ps
  mkr : Mk K (ga K C) (ma K (ga K C) "__init__")
  at_ : mg C = some (.ref (ga K C))
section
variable {fa : List Fa} {fn : List DefD} {xl : XL} {P : Program} {w : World} {K : PySem.W.Frag} {mg : Str → Option Value} {base : Heap}
theorem Told.mkAny (T : Told fa fn xl K mg) (i : Nat) {d : DefD} {f : Addr} {N ps : List Str} {k : Nat} {sp : Sp} (hd : fn[i]? = some d) (hx : fAd K d.at_ = f) (h0 : d.dfl = []) (h1 : d.kwd = []) (S : FnScope N ps d.scope)
    (bnd : ∀ (kV doc pm : Value) (an : Option Addr) (cdv ct : Value) (us : List Value), us.length = ps.length → bindArgs (PySem.W.fnOf d.name d.qual d.params d.body d.scope .none kV doc pm an cdv ct) ⟨us, []⟩ = pure (ps.zip us))
    (len : ∀ vs H Q E, sp vs H Q E → vs.length = ps.length)
    (body : ∀ (cdv : Value) (A : Around) (outer : List Env) (s : Shared) (H : Hp) (vs : List V) (Q : VK) (E : XK), Room k (A.deeper (envOfC d.qual d.scope s.heap.objs.size f cdv)) → sp vs H Q E →
      ∃ t, PSs (cxOf (L2.CX P w) P w K mg base N d.qual d.scope f cdv A outer s H E) d.body t ∧ t { nx := fun _ H' => Q .non H', rt := Q } (start N vs) H) : FnOk P w K mg base (L2.CX P w) (k + 1) f (fdAt K f) ps sp ∧ Bnd (fdAt K f) ps := by
  obtain ⟨fd, F⟩ := T.says.def_ i hd
  have e0 : d.dvs K = [] := by unfold DefD.dvs; rw [h0]; rfl
  have e1 : d.kws K = [] := by unfold DefD.kws; rw [h1]; rfl
  rw [hx, e0, e1] at F
  have ef := fdAt_of F
  subst ef
  exact ⟨F.ok S len body, F.bindsA bnd⟩
theorem Told.mkMt (T : Told fa fn xl K mg) (i j l : Nat) {d : DefD} {C m : Str} {N ps : List Str} {k : Nat} {sp : Sp} (hd : fn[i]? = some d) (hx : d.at_ = (C, some m)) (h0 : d.dfl = []) (h1 : d.kwd = []) (hg : fa[j]? = some (.meth C m)) (hc : fa[l]? = some (.cls C)) (S : FnScope N ps d.scope)
    (bnd : ∀ (kV doc pm : Value) (an : Option Addr) (cdv ct : Value) (us : List Value), us.length = ps.length → bindArgs (PySem.W.fnOf d.name d.qual d.params d.body d.scope .none kV doc pm an cdv ct) ⟨us, []⟩ = pure (ps.zip us))
    (len : ∀ vs H Q E, sp vs H Q E → vs.length = ps.length)
    (body : ∀ (cdv : Value) (A : Around) (outer : List Env) (s : Shared) (H : Hp) (vs : List V) (Q : VK) (E : XK), Room k (A.deeper (envOfC d.qual d.scope s.heap.objs.size (ma K (ga K C) m) cdv)) → sp vs H Q E →
      ∃ t, PSs (cxOf (L2.CX P w) P w K mg base N d.qual d.scope (ma K (ga K C) m) cdv A outer s H E) d.body t ∧ t { nx := fun _ H' => Q .non H', rt := Q } (start N vs) H) : Mt P w K mg base (k + 1) C m ps sp := by
  obtain ⟨a, b⟩ := T.mkAny (P := P) (w := w) (base := base) i hd (by rw [hx]; rfl) h0 h1 S bnd len body
  exact ⟨a, b, He.meth_ok (T.says.fact j hg), T.cls l hc⟩
theorem Told.mkMi (T : Told fa fn xl K mg) (i j l : Nat) {d : DefD} {C : Str} {N ps : List Str} {k : Nat} {sp : Sp} (hd : fn[i]? = some d) (hx : d.at_ = (C, some ("__init__" : Str))) (h0 : d.dfl = []) (h1 : d.kwd = []) (hg : fa[j]? = some (.mkr C)) (hc : fa[l]? = some (.glo C)) (S : FnScope N ps d.scope)
    (bnd : ∀ (kV doc pm : Value) (an : Option Addr) (cdv ct : Value) (us : List Value), us.length = ps.length → bindArgs (PySem.W.fnOf d.name d.qual d.params d.body d.scope .none kV doc pm an cdv ct) ⟨us, []⟩ = pure (ps.zip us))
    (len : ∀ vs H Q E, sp vs H Q E → vs.length = ps.length)
    (body : ∀ (cdv : Value) (A : Around) (outer : List Env) (s : Shared) (H : Hp) (vs : List V) (Q : VK) (E : XK), Room k (A.deeper (envOfC d.qual d.scope s.heap.objs.size (ma K (ga K C) "__init__") cdv)) → sp vs H Q E →
      ∃ t, PSs (cxOf (L2.CX P w) P w K mg base N d.qual d.scope (ma K (ga K C) "__init__") cdv A outer s H E) d.body t ∧ t { nx := fun _ H' => Q .non H', rt := Q } (start N vs) H) : Mi P w K mg base (k + 1) C ps sp := by
  obtain ⟨a, b⟩ := T.mkAny (P := P) (w := w) (base := base) i hd (by rw [hx]; rfl) h0 h1 S bnd len body
  exact ⟨a, b, He.mkr_ok (T.says.fact j hg), T.glo l hc⟩
end
/-- x is an instance of the class at C, its attributes none of the name m -/
def Recv (C : Addr) (m : Str) (x : V) (H : Hp) : Prop := ∃ a dx fs, x = .ref a ∧ H a = some (.ins C dx fs) ∧ fs.lookup m = none
theorem recv {C : Addr} {m : Str} {a dx : Addr} {H : Hp} {fs : List (Str × V)} (h : H a = some (.ins C dx fs)) (e : fs.lookup m = none := by rfl) : Recv C m (.ref a) H := ⟨a, dx, fs, rfl, h, e⟩
section
variable {X : Cx} {k : Nat} {C m : Str} {ps : List Str} {sp : Sp} {W : WX} {p pos apos : Pos} {o e : Expr} {es : List Expr} {ta : TE} {t : TA}
def gMeth (C : Addr) (m : Str) (sp : Sp) (W : WX) (ta : TE) (t : TA) : TE := fun σ H Q => ta σ H fun x H1 => Recv C m x H1 ∧ t σ H1 fun vs H2 => sp (x :: vs) H2 Q fun c d H3 => W c d σ H3
theorem pe_mt {pl : Sem Bool} {K : PySem.W.Frag} (hK : X.K = K) (tk : Takes X W) (he : PE X o ta) (F : Mt X.prog X.w K X.mg X.base k C m ps sp) (hr : Room k X.A) (ha : PA X (e :: es) t)
    (hst : starEach (e :: es) X.env = (false, eval e X.env) :: starEach es X.env := by rfl) (hpl : (backTo pos (starEach es X.env)).any (·.1) = false := by rfl)
    (ht : eval (.Call (.Attribute o m apos) (e :: es) [] pos) X.env = (do
      let z ← eval o X.env
      standAt apos.atName
      let (g, one) ← holding [z] (getMethod z m pl)
      callWith pos g one (backTo pos (starEach (e :: es) X.env)) (backToKw pos (keywordEach [] X.env))) := by rfl) :
    PE X (.Call (.Attribute o m apos) (e :: es) [] pos) (gMeth (ga K C) m sp W ta t) := by
  subst hK
  refine ⟨fun pins s σ H Q I h => ?_⟩
  refine PySem.W.methodCall_KW (pl := pl) (thn (he.run pins s σ H _ I h) fun u s1 hh => ?_) ht
  obtain ⟨y, H1, I1, ry, ⟨a, dx, fs, ey, ea, l⟩, q⟩ := hh
  subst ey
  obtain rfl : u = Value.ref a := ry
  refine getmeth_ok I1 ea F.cl F.me l ?_
  refine PySem.W.callWith_K (first := [.ref a]) (h₀ := X.base) I.ok.mod.kin F.me.kp (thn (ha.run pos pins s1 σ H1 _ I1 q) fun us s2 h2 => ?_) hst hpl
  obtain ⟨vs, H2, I2, r, q2⟩ := h2
  exact ⟨I2.kIn, run_fnS (us := .ref a :: us) (vs := .ref a :: vs) (E := WE W) F.ok hr F.bd.to (passAt tk σ) I2 (.cons rfl r) q2⟩
theorem pe_mt0 {pl : Sem Bool} {K : PySem.W.Frag} (hK : X.K = K) (tk : Takes X W) (he : PE X o ta) (F : Mt X.prog X.w K X.mg X.base k C m ps sp) (hr : Room k X.A)
    (ht : eval (.Call (.Attribute o m apos) [] [] pos) X.env = (do
      let z ← eval o X.env
      standAt apos.atName
      let (g, one) ← holding [z] (getMethod z m pl)
      callWith pos g one (backTo pos (starEach [] X.env)) (backToKw pos (keywordEach [] X.env))) := by rfl) :
    PE X (.Call (.Attribute o m apos) [] [] pos) (gMeth (ga K C) m sp W ta tNil) := by
  subst hK
  refine ⟨fun pins s σ H Q I h => ?_⟩
  refine PySem.W.methodCall_KW (pl := pl) (thn (he.run pins s σ H _ I h) fun u s1 hh => ?_) ht
  obtain ⟨y, H1, I1, ry, ⟨a, dx, fs, ey, ea, l⟩, q⟩ := hh
  subst ey
  obtain rfl : u = Value.ref a := ry
  refine getmeth_ok I1 ea F.cl F.me l ?_
  exact PySem.W.callWith_K0 (first := [.ref a]) I1.kIn F.me.kp (run_fnS (us := [.ref a]) (vs := [.ref a]) (E := WE W) F.ok hr F.bd.to (passAt tk σ) I1 (.cons rfl .nil) q)
theorem pe_mk {K : PySem.W.Frag} (hK : X.K = K) (tk : Takes X W) (F : Mi X.prog X.w K X.mg X.base k C ps sp) (hr : Room (k + 1) X.A) (hg : Gl X C) (ha : PA X (e :: es) t) (hdb : (C == ("__debug__" : Str)) = false := by decide)
    (he : starEach (e :: es) X.env = (false, eval e X.env) :: starEach es X.env := by rfl) (hpl : (backTo pos (starEach es X.env)).any (·.1) = false := by rfl) : PE X (.Call (.Name C p) (e :: es) [] pos) (tMakeW (ga K C) sp W t) := by
  subst hK
  exact pe_makeW tk F.mkr F.ok hr hg F.at_ F.bd.to ha hdb he hpl
theorem pe_mk0 {K : PySem.W.Frag} (hK : X.K = K) (tk : Takes X W) (F : Mi X.prog X.w K X.mg X.base k C ps sp) (hr : Room (k + 1) X.A) (hg : Gl X C) (hdb : (C == ("__debug__" : Str)) = false := by decide) : PE X (.Call (.Name C p) [] [] pos) (tMakeW (ga K C) sp W tNil) := by
  subst hK
  exact pe_makeW0 tk F.mkr F.ok hr hg F.at_ F.bd.to hdb
/-- least, greatest of two -/
def gMin : List V → Hp → VK → Prop
  | [.int i, .int j], H, Q => Q (.int (min i j)) H
  | _, _, _ => False
def gMax : List V → Hp → VK → Prop
  | [.int i, .int j], H, Q => Q (.int (max i j)) H
  | _, _, _ => False
theorem call_gMin (hc : X.calm = true) : CallR X (.builtin "min") gMin := by
  intro pins s σ H xs us Q I r h
  unfold gMin at h
  split at h
  · rename_i i j
    refine call_min2 hc pins s σ _ _ us Q I r ⟨i, j, rfl, ?_⟩
    have e : (if j < i then j else i) = min i j := by split <;> omega
    rw [e]
    exact h
  · exact h.elim
theorem call_gMax (hc : X.calm = true) : CallR X (.builtin "max") gMax := by
  intro pins s σ H xs us Q I r h
  unfold gMax at h
  split at h
  · rename_i i j
    refine call_max2 hc pins s σ _ _ us Q I r ⟨i, j, rfl, ?_⟩
    have e : (if j > i then j else i) = max i j := by split <;> omega
    rw [e]
    exact h
  · exact h.elim
end
section
variable {σ : L2.St} {H : Hp} {Q : VK} {D : Ends} {C : Addr} {f m : Str} {ta tv : TE} {as : TA} {sp : Sp} {W : WX} {a b : Int} {y x i : V} {S : TSet}
theorem x_fld : gFld C ta f σ H Q = ta σ H fun x H1 => ∃ v, FldIs C f x H1 v ∧ Q v H1 := rfl
theorem x_setF : gSetF C ta tv f D σ H = tv σ H fun y H1 => ta σ H1 fun x H2 => ∃ a dx fs, x = .ref a ∧ H2 a = some (.ins C dx fs) ∧ fs.length < 1000 ∧ D.nx σ (upd H2 a (.ins C dx (putF f y fs))) := rfl
theorem x_meth : gMeth C m sp W ta as σ H Q = ta σ H fun x H1 => Recv C m x H1 ∧ as σ H1 fun vs H2 => sp (x :: vs) H2 Q fun c d H3 => W c d σ H3 := rfl
theorem x_make : tMakeW C sp W as σ H Q = as σ H fun vs H1 => ∀ x dx, H1 x = none → H1 dx = none → dx ≠ x → sp (.ref x :: vs) (upd (upd H1 dx (.own x)) x (.ins C dx [])) (fun v H2 => v = .non ∧ Q (.ref x) H2) fun c d H3 => W c d σ H3 := rfl
theorem x_sub {to ti : TE} {N : L2.St → Hp → Prop} : gSub to ti S y σ H N = to σ H fun o H1 => ti σ H1 fun i H2 => S o i y H2 fun H3 => N σ H3 := rfl
theorem r_min : gMin [.int a, .int b] H Q = Q (.int (min a b)) H := rfl
theorem r_max : gMax [.int a, .int b] H Q = Q (.int (max a b)) H := rfl
/-- a store to a list at i -/
theorem r_setL {p : Addr} {xs : List V} {k : Int} {N : Hp → Prop} (h : H p = some (.lst xs)) (h0 : 0 ≤ k) (h1 : k < xs.length) (q : N (upd H p (.lst (xs.set k.toNat y)))) : rSetL (.ref p) (.int k) y H N :=
  ⟨p, xs, k, k.toNat, rfl, rfl, h, by unfold ixN; rw [if_pos h0, if_pos h1], q⟩
end
end G
namespace G
open PySem PySem.Spec PyProof.Rows L2
/-! ## comprehensions whose parts leave the heap as it is -/
section
variable {σ : L2.St} {vs : List Nat} {H1 : Hp} {D : Addr} {Qd : Hp → Prop} {te : TE} {tt : TT} {k : Nat} {f : Nat → V} {K : PySem.W.Frag} {a : Addr} {xs : List V}
theorem tYes_on {σ2 : L2.St} {H : Hp} {A B : Hp → Prop} (h : A H) : tYes σ2 H fun b H3 => if b = true then A H3 else B H3 := by
  show (if true = true then A H else B H)
  rw [if_pos (rfl : true = true)]
  exact h
/-- [e for x in range(..)] -/
theorem lc_mapR {lo : Int} {n : Nat} (f : Nat → V) (hw : ∀ v, wipe ((wipe σ vs).set k (some v)) vs = wipe σ vs) (hn : n ≤ sizeLine)
    (he : ∀ i, i < n → ∀ acc (Q : VK), Q (f i) (upd H1 D (.lst acc)) → te ((wipe σ vs).set k (some (.int (lo + i)))) (upd H1 D (.lst acc)) Q) (hd : Qd (upd H1 D (.lst ((List.range n).map f)))) :
    ∃ W : Nat → Nat → Hp → Prop, (∃ m, W 0 m (upd H1 D (.lst []))) ∧ ∀ i m H, W i m H →
      ((Itr lo n).stop i H ∧ Qd H) ∨ ((Itr lo n).go i H ∧ ∃ Nx : Hp → Prop, (∀ H', Nx H' → ∃ m', m' < m ∧ W (i + 1) m' H') ∧ ∀ x H', (Itr lo n).yld i H x H' → gName k x (wipe σ vs) H' fun σ2 H2 => wipe σ2 vs = wipe σ vs ∧ tYes σ2 H2 fun b H3 =>
        if b = true then te σ2 H3 fun y H4 => ∃ acc, H4 D = some (.lst acc) ∧ acc.length < sizeLine ∧ Nx (upd H4 D (.lst (acc ++ [y]))) else Nx H3) := by
  refine lc_range (Qd := Qd) (fun i H => H = upd H1 D (.lst ((List.range i).map f))) rfl ?_ fun H e => by rw [e]; exact hd
  rintro i H hi rfl
  refine ⟨hw _, tYes_on (he i hi _ _ ⟨_, upd_same, by rw [List.length_map, List.length_range]; omega, ?_⟩)⟩
  rw [upd_upd, List.range_succ, List.map_append]
  rfl
/-- [e for x in xs] -/
theorem lc_mapL {ys : List V} (hw : ∀ v, wipe ((wipe σ vs).set k (some v)) vs = wipe σ vs) (hl : ∀ acc, SqL K (upd H1 D (.lst acc)) a xs) (hn : xs.length ≤ sizeLine) (hy : ys.length = xs.length)
    (he : ∀ (i : Nat) (x y : V), xs[i]? = some x → ys[i]? = some y → ∀ acc (Q : VK), Q y (upd H1 D (.lst acc)) → te ((wipe σ vs).set k (some x)) (upd H1 D (.lst acc)) Q) (hd : Qd (upd H1 D (.lst ys))) :
    ∃ W : Nat → Nat → Hp → Prop, (∃ m, W 0 m (upd H1 D (.lst []))) ∧ ∀ i m H, W i m H →
      ((Itl K a).stop i H ∧ Qd H) ∨ ((Itl K a).go i H ∧ ∃ Nx : Hp → Prop, (∀ H', Nx H' → ∃ m', m' < m ∧ W (i + 1) m' H') ∧ ∀ x H', (Itl K a).yld i H x H' → gName k x (wipe σ vs) H' fun σ2 H2 => wipe σ2 vs = wipe σ vs ∧ tYes σ2 H2 fun b H3 =>
        if b = true then te σ2 H3 fun y H4 => ∃ acc, H4 D = some (.lst acc) ∧ acc.length < sizeLine ∧ Nx (upd H4 D (.lst (acc ++ [y]))) else Nx H3) := by
  refine lc_list (Qd := Qd) (xs := xs) (fun i H => H = upd H1 D (.lst (ys.take i))) (by rfl) (fun i H _ e => by rw [e]; exact hl _) ?_ fun H e => by
    rw [e, ← hy, List.take_length]
    exact hd
  rintro i x H hi rfl
  have hlt : i < ys.length := by rw [hy]; exact (List.getElem?_eq_some_iff.mp hi).1
  refine ⟨hw _, tYes_on (he i x ys[i] hi (List.getElem?_eq_getElem hlt) _ _ ⟨_, upd_same, by rw [List.length_take]; omega, ?_⟩)⟩
  rw [upd_upd, List.take_succ_eq_append_getElem hlt]
/-- [e for x in xs if t], ys the kept ones, by the places of what is kept -/
theorem lc_iffL {g : V → Option V} (hw : ∀ v, wipe ((wipe σ vs).set k (some v)) vs = wipe σ vs) (hl : ∀ acc, SqL K (upd H1 D (.lst acc)) a xs) (hn : xs.length ≤ sizeLine)
    (he : ∀ (i : Nat) (x : V), xs[i]? = some x → ∀ acc (N : Bool → Hp → Prop), ((g x).isSome = true → N true (upd H1 D (.lst acc))) → ((g x).isSome = false → N false (upd H1 D (.lst acc))) → tt ((wipe σ vs).set k (some x)) (upd H1 D (.lst acc)) N)
    (hy : ∀ (i : Nat) (x y : V), xs[i]? = some x → g x = some y → ∀ acc (Q : VK), Q y (upd H1 D (.lst acc)) → te ((wipe σ vs).set k (some x)) (upd H1 D (.lst acc)) Q) (hd : Qd (upd H1 D (.lst (xs.filterMap g)))) :
    ∃ W : Nat → Nat → Hp → Prop, (∃ m, W 0 m (upd H1 D (.lst []))) ∧ ∀ i m H, W i m H →
      ((Itl K a).stop i H ∧ Qd H) ∨ ((Itl K a).go i H ∧ ∃ Nx : Hp → Prop, (∀ H', Nx H' → ∃ m', m' < m ∧ W (i + 1) m' H') ∧ ∀ x H', (Itl K a).yld i H x H' → gName k x (wipe σ vs) H' fun σ2 H2 => wipe σ2 vs = wipe σ vs ∧ tt σ2 H2 fun b H3 =>
        if b = true then te σ2 H3 fun y H4 => ∃ acc, H4 D = some (.lst acc) ∧ acc.length < sizeLine ∧ Nx (upd H4 D (.lst (acc ++ [y]))) else Nx H3) := by
  refine lc_list (Qd := Qd) (xs := xs) (fun i H => H = upd H1 D (.lst ((xs.take i).filterMap g))) (by rfl) (fun i H _ e => by rw [e]; exact hl _) ?_ fun H e => by
    rw [e, List.take_length]
    exact hd
  rintro i x H hi rfl
  have hlt : i < xs.length := (List.getElem?_eq_some_iff.mp hi).1
  have ex : xs[i] = x := by rw [List.getElem?_eq_getElem hlt] at hi; exact Option.some.inj hi
  have small : ((xs.take i).filterMap g).length < sizeLine := Nat.lt_of_le_of_lt (List.length_filterMap_le _ _) (by rw [List.length_take]; omega)
  refine ⟨hw _, he i x hi _ _ (fun c => ?_) fun c => ?_⟩
  · obtain ⟨y, ey⟩ := Option.isSome_iff_exists.mp c
    rw [if_pos (rfl : true = true)]
    refine hy i x y hi ey _ _ ⟨_, upd_same, small, ?_⟩
    rw [upd_upd, List.take_succ_eq_append_getElem hlt, List.filterMap_append, ex]
    simp only [List.filterMap_cons, ey, List.filterMap_nil]
  · rw [if_neg Bool.false_ne_true, List.take_succ_eq_append_getElem hlt, List.filterMap_append, ex]
    have e0 : g x = none := by cases e : g x with
      | none => rfl
      | some y => rw [e] at c; cases c
    simp only [List.filterMap_cons, e0, List.filterMap_nil, List.append_nil]
end
/-- a statement, then the rest, by what holds between them -/
def tCut (t u : TS) : TS := fun D σ H => ∃ M : L2.St → Hp → Prop, t { D with nx := M } σ H ∧ ∀ σ' H', M σ' H' → u D σ' H'
theorem pss_cut {X : Cx} {st : Stmt} {rest : List Stmt} {t u : TS} (h1 : PS X st t) (h2 : PSs X rest u) : PSs X (st :: rest) (tCut t u) := by
  refine ⟨fun pins s σ H D I h => ?_⟩
  obtain ⟨M, a, b⟩ := h
  refine wpAny_execs_cons (thn (h1.run pins s σ H { D with nx := M } I a) fun f s1 q => ?_)
  cases f with
  | next => exact q.elim fun σ1 z => z.elim fun H1 y => h2.run pins s1 σ1 H1 D y.1 (b σ1 H1 y.2)
  | ret v => exact q
  | brk => exact q
  | cont => exact q
/-- what is wanted of a loop over J; of a comprehension -/
def ForW (J : It) (g : TG) (tb : TS) (D : Ends) (σ : L2.St) (H : Hp) : Prop := ∃ W : Nat → Nat → L2.St → Hp → Prop, (∃ m, W 0 m σ H) ∧ ∀ i m σ H, W i m σ H →
  (J.stop i H ∧ D.nx σ H) ∨ (J.go i H ∧ ∃ N : L2.St → Hp → Prop, (∀ σ' H', N σ' H' → ∃ m', m' < m ∧ W (i + 1) m' σ' H') ∧ ∀ x H', J.yld i H x H' → g x σ H' fun σ2 H2 => tb { D with nx := N, ct := N, bk := D.nx } σ2 H2)
def LcW (J : It) (g : TG) (tt : TT) (te : TE) (vs : List Nat) (σ : L2.St) (H1 : Hp) (Q : VK) : Prop := ∀ D, H1 D = none → ∃ W : Nat → Nat → Hp → Prop, (∃ m, W 0 m (upd H1 D (.lst []))) ∧ ∀ i m H, W i m H →
  (J.stop i H ∧ Q (.ref D) H) ∨ (J.go i H ∧ ∃ Nx : Hp → Prop, (∀ H', Nx H' → ∃ m', m' < m ∧ W (i + 1) m' H') ∧ ∀ x H', J.yld i H x H' → g x (wipe σ vs) H' fun σ2 H2 => wipe σ2 vs = wipe σ vs ∧ tt σ2 H2 fun b H3 =>
    if b = true then te σ2 H3 fun y H4 => ∃ acc, H4 D = some (.lst acc) ∧ acc.length < sizeLine ∧ Nx (upd H4 D (.lst (acc ++ [y]))) else Nx H3)
section
variable {σ : L2.St} {H : Hp} {Q : VK} {D : Ends} {wi : TI} {g : TG} {tb : TS} {tt : TT} {te : TE} {ta : TA} {vs : List Nat} {R : It → Hp → Prop} {K : PySem.W.Frag} {a b : Addr} {n m : Int}
theorem x_for : tFor wi g tb D σ H = wi σ H fun J H1 => ForW J g tb D σ H1 := rfl
theorem x_lc : tLc wi g tt te vs σ H Q = wi σ H fun J H1 => LcW J g tt te vs σ H1 Q := rfl
theorem x_rng1 : iRng1 ta σ H R = ta σ H fun vs H1 => ∃ j : Int, vs = [.int j] ∧ -(2 ^ 62) ≤ j ∧ j < 2 ^ 62 ∧ R (Itr 0 j.toNat) H1 := rfl
theorem x_rng2 : iRng2 ta σ H R = ta σ H fun vs H1 => ∃ i j : Int, vs = [.int i, .int j] ∧ (-(2 ^ 62) ≤ i ∧ i < 2 ^ 62 ∧ -(2 ^ 62) ≤ j ∧ j < 2 ^ 62) ∧ R (Itr i (j - i).toNat) H1 := rfl
theorem x_lst1 {tl : TE} : iList K tl σ H R = tl σ H fun x H1 => ∃ a, x = .ref a ∧ (∃ xs, SqL K H1 a xs) ∧ R (Itl K a) H1 := rfl
theorem x_one {P : Int → Prop} : (∃ j : Int, [V.int n] = [V.int j] ∧ P j) = P n := propext ⟨fun ⟨_, e, q⟩ => by cases e; exact q, fun q => ⟨n, rfl, q⟩⟩
theorem x_two {P : Int → Int → Prop} : (∃ i j : Int, [V.int n, V.int m] = [V.int i, V.int j] ∧ P i j) = P n m := propext ⟨fun ⟨_, _, e, q⟩ => by cases e; exact q, fun q => ⟨n, m, rfl, q⟩⟩
theorem x_adr {P : Addr → Prop} : (∃ b, V.ref a = V.ref b ∧ P b) = P a := propext ⟨fun ⟨_, e, q⟩ => by cases e; exact q, fun q => ⟨a, rfl, q⟩⟩
theorem x_sl {r : V → Option Int → Option Int → Hp → VK → Prop} {tl th : TO} : tSl r te tl th σ H Q = te σ H fun x H1 => tl σ H1 fun l H2 => th σ H2 fun u H3 => r x l u H3 Q := rfl
theorem x_np {QO : Option Int → Hp → Prop} : tNoPart σ H QO = QO none H := rfl
theorem x_pt {QO : Option Int → Hp → Prop} : tPart te σ H QO = te σ H fun x H1 => ∃ i, x = .int i ∧ QO (some i) H1 := rfl
theorem x_int {P : Int → Prop} : (∃ j : Int, V.int n = V.int j ∧ P j) = P n := propext ⟨fun ⟨_, e, q⟩ => by cases e; exact q, fun q => ⟨n, rfl, q⟩⟩
theorem x_bm {T : String} {r : V → List V → Hp → VK → Prop} : tBM K T r te ta σ H Q = te σ H fun x H1 => tyV K T x H1 ∧ ta σ H1 fun xs H2 => r x xs H2 Q := rfl
theorem x_bm0 {T : String} {r : V → List V → Hp → VK → Prop} : tBM0 K T r te σ H Q = te σ H fun x H1 => tyV K T x H1 ∧ r x [] H1 Q := rfl
theorem x_tupg {ts : TGs} {n : Nat} {v : V} {N : L2.St → Hp → Prop} : gTup K n ts v σ H N = ∃ a xs, v = .ref a ∧ SqT K H a xs ∧ xs.length = n ∧ ts xs σ H N := rfl
theorem x_consg {t : TG} {u : TGs} {v : V} {r : List V} {N : L2.St → Hp → Prop} : gCons t u (v :: r) σ H N = t v σ H fun σ' H' => u r σ' H' N := propext ⟨fun ⟨_, _, e, q⟩ => by cases e; exact q, fun q => ⟨v, r, rfl, q⟩⟩
theorem x_nilg {N : L2.St → Hp → Prop} : gNil [] σ H N = N σ H := propext ⟨fun z => z.2, fun z => ⟨rfl, z⟩⟩
theorem x_cut {t u : TS} : tCut t u D σ H = ∃ M : L2.St → Hp → Prop, t { D with nx := M } σ H ∧ ∀ σ' H', M σ' H' → u D σ' H' := rfl
theorem x_dget2 {td ty tx : TE} : tDGet2 td ty tx σ H Q = td σ H fun x H1 => ∃ a, x = .ref a ∧ IsD H1 a ∧ ty σ H1 fun y H2 => tx σ H2 fun z H3 => ∃ o, DGet H3 a y o ∧ Q (o.getD z) H3 := rfl
theorem x_dget1 {td ty : TE} : tDGet1 td ty σ H Q = td σ H fun x H1 => ∃ a, x = .ref a ∧ IsD H1 a ∧ ty σ H1 fun y H2 => ∃ o, DGet H2 a y o ∧ Q (o.getD .non) H2 := rfl
theorem x_dget {td ty : TE} : tDGet td ty σ H Q = td σ H fun x H1 => ty σ H1 fun y H2 => ∃ a v, x = .ref a ∧ DGet H2 a y (some v) ∧ Q v H2 := rfl
theorem x_din {td ty : TE} : tDIn ty td σ H Q = ty σ H fun y H1 => td σ H1 fun x H2 => ∃ a o, x = .ref a ∧ DGet H2 a y o ∧ Q (.bl o.isSome) H2 := rfl
theorem x_dni {td ty : TE} : tDNotIn ty td σ H Q = ty σ H fun y H1 => td σ H1 fun x H2 => ∃ a o, x = .ref a ∧ DGet H2 a y o ∧ Q (.bl (!o.isSome)) H2 := rfl
theorem x_dput {td ty tv : TE} : sDPut td ty tv D σ H = tv σ H fun v H1 => td σ H1 fun x H2 => ty σ H2 fun y H3 => ∃ a H4, x = .ref a ∧ DPut H3 a y v H4 ∧ D.nx σ H4 := rfl
theorem isD_k {kvs : List (Key × V)} (h : H a = some (.dK kvs)) : IsD H a := .inl ⟨kvs, .inl h⟩
theorem dget_i {kvs : List (Key × V)} {i : Int} (h : H a = some (.dK kvs)) : DGet H a (.int i) (valV kvs (.inl i : Key)) := DGet.k (k := .inl i) h
theorem dput_i {kvs : List (Key × V)} {i : Int} {v : V} (h : H a = some (.dK kvs)) (hl : kvs.length < sizeLine) : DPut H a (.int i) v (upd H a (.dK (putK kvs (.inl i : Key) v))) := DPut.k (k := .inl i) h hl
theorem forW_range {lo : Int} {n : Nat} (Pv : Nat → L2.St → Hp → Prop) (h0 : Pv 0 σ H) (hs : ∀ i σ H, i < n → Pv i σ H → g (.int (lo + i)) σ H fun σ2 H2 => tb { D with nx := Pv (i + 1), ct := Pv (i + 1), bk := D.nx } σ2 H2) (hd : ∀ σ H, Pv n σ H → D.nx σ H) : ForW (Itr lo n) g tb D σ H := for_range Pv h0 hs hd
theorem forW_list {xs : List V} (Pv : Nat → L2.St → Hp → Prop) (h0 : Pv 0 σ H) (hl : ∀ i σ H, i ≤ xs.length → Pv i σ H → SqL K H a xs) (hs : ∀ i x σ H, xs[i]? = some x → Pv i σ H → g x σ H fun σ2 H2 => tb { D with nx := Pv (i + 1), ct := Pv (i + 1), bk := D.nx } σ2 H2)
    (hd : ∀ σ H, Pv xs.length σ H → D.nx σ H) : ForW (Itl K a) g tb D σ H := for_list (xs := xs) Pv h0 hl hs hd
end
theorem x_yes {σ : L2.St} {H : Hp} {Q : Bool → Hp → Prop} : tYes σ H Q = Q true H := rfl
end G
namespace G
open PySem PySem.Spec PySem.Calls PyProof.Rows L2
/-! ### more shapes of loops, of targets -/
section
variable {σ : L2.St} {H : Hp} {Q : VK} {D : Ends} {g : TG} {tb : TS} {tl : TE} {ta : TA} {R : It → Hp → Prop} {K : PySem.W.Frag} {a : Addr}
theorem x_itup : iTup K tl σ H R = tl σ H fun x H1 => ∃ a, x = .ref a ∧ (∃ xs, SqT K H1 a xs) ∧ R (Itt K a) H1 := rfl
theorem x_rng3 : iRng3 ta σ H R = ta σ H fun vs H1 => ∃ (i j c : Int) (n : Nat), vs = [.int i, .int j, .int c] ∧ RgC i j c n ∧ R (Itc i c n) H1 := rfl
theorem x_three {x y z : Int} {P : Int → Int → Int → Nat → Prop} : (∃ (i j c : Int) (n : Nat), [V.int x, V.int y, V.int z] = [.int i, .int j, .int c] ∧ P i j c n) = ∃ n, P x y z n :=
  propext ⟨fun ⟨_, _, _, n, e, q⟩ => by cases e; exact ⟨n, q⟩, fun ⟨n, q⟩ => ⟨x, y, z, n, rfl, q⟩⟩
theorem x_lstg {ts : TGs} {n : Nat} {v : V} {N : L2.St → Hp → Prop} : gLst K n ts v σ H N = ∃ a xs, v = .ref a ∧ SqL K H a xs ∧ xs.length = n ∧ ts xs σ H N := rfl
theorem x_adrS {β : Type} {P : Addr → β → Prop} : (∃ b xs, V.ref a = V.ref b ∧ P b xs) = ∃ xs, P a xs := propext ⟨fun ⟨_, xs, e, q⟩ => by cases e; exact ⟨xs, q⟩, fun ⟨xs, q⟩ => ⟨a, xs, rfl, q⟩⟩
theorem forW_tup {xs : List V} (Pv : Nat → L2.St → Hp → Prop) (h0 : Pv 0 σ H) (hl : ∀ i σ H, i ≤ xs.length → Pv i σ H → SqT K H a xs) (hs : ∀ i x σ H, xs[i]? = some x → Pv i σ H → g x σ H fun σ2 H2 => tb { D with nx := Pv (i + 1), ct := Pv (i + 1), bk := D.nx } σ2 H2)
    (hd : ∀ σ H, Pv xs.length σ H → D.nx σ H) : ForW (Itt K a) g tb D σ H := for_tup (xs := xs) Pv h0 hl hs hd
theorem forW_step {lo c : Int} {n : Nat} (Pv : Nat → L2.St → Hp → Prop) (h0 : Pv 0 σ H) (hs : ∀ i σ H, i < n → Pv i σ H → g (.int (lo + (i : Nat) * c)) σ H fun σ2 H2 => tb { D with nx := Pv (i + 1), ct := Pv (i + 1), bk := D.nx } σ2 H2)
    (hd : ∀ σ H, Pv n σ H → D.nx σ H) : ForW (Itc lo c n) g tb D σ H := for_rangeC Pv h0 hs hd
end
end G
namespace G
open PySem PySem.Spec PySem.Calls PyProof.Rows L2 He
/-! ### is True, in, sorted, all -/
section
variable {X : Cx} {K : PySem.W.Frag}
def gIsB : R2 := fun x y H Q => ∃ b, y = .bl b ∧ Q (.bl (decide (x = .bl b))) H
def gNotB : R2 := fun x y H Q => ∃ b, y = .bl b ∧ Q (.bl (!decide (x = .bl b))) H
theorem relV_bl {x : V} {b : Bool} (r : RelV x (.bool b)) : x = .bl b := by
  cases x with
  | bl c => cases r; rfl
  | int i => obtain ⟨t, e⟩ := r; cases e
  | str i => obtain ⟨t, e⟩ := r; cases e
  | byt i => obtain ⟨t, e⟩ := r; cases e
  | flt i => obtain ⟨t, e⟩ := r; cases e
  | non => cases r
  | ref a => cases r
  | ty n => cases r
theorem relV_plain {x : V} {v : Value} {b : Bool} (r : RelV x v) : plainIs v (.bool b) = true := by
  cases x with
  | bl c => cases r; rfl
  | int i => obtain ⟨t, e⟩ := r; subst e; rfl
  | str i => obtain ⟨t, e⟩ := r; subst e; rfl
  | byt i => obtain ⟨t, e⟩ := r; subst e; rfl
  | flt i => obtain ⟨t, e⟩ := r; subst e; rfl
  | non => cases r; rfl
  | ref a => cases r; rfl
  | ty n => cases r; rfl
theorem op_gIsB : OpR X (compareOp .Is) gIsB := by
  intro pins s σ H x y v u Q I rx ry h
  obtain ⟨b, rfl, q⟩ := h
  cases (show u = Value.bool b from ry)
  by_cases e : v = .bool b
  · subst e
    have ex := relV_bl rx
    exact wpAny_is_self rfl ⟨.bl true, H, I, rfl, by rw [decide_eq_true ex] at q; exact q⟩
  · have ex : ¬ x = .bl b := fun z => e (by subst z; exact rx)
    exact wpAny_is_other (relV_plain rx) e ⟨.bl false, H, I, rfl, by rw [decide_eq_false ex] at q; exact q⟩
theorem op_gNotB : OpR X (compareOp .IsNot) gNotB := by
  intro pins s σ H x y v u Q I rx ry h
  obtain ⟨b, rfl, q⟩ := h
  cases (show u = Value.bool b from ry)
  by_cases e : v = .bool b
  · subst e
    have ex := relV_bl rx
    exact wpAny_isNot_self rfl ⟨.bl false, H, I, rfl, by rw [decide_eq_true ex] at q; exact q⟩
  · have ex : ¬ x = .bl b := fun z => e (by subst z; exact rx)
    exact wpAny_isNot_other (relV_plain rx) e ⟨.bl true, H, I, rfl, by rw [decide_eq_false ex] at q; exact q⟩
theorem op_inK (hK : X.K = K) : OpR X (compareOp .In) (rIn K false) := hK ▸ op_in_seq
theorem op_ninK (hK : X.K = K) : OpR X (compareOp .NotIn) (rIn K true) := hK ▸ op_notIn_seq
theorem call_sortedK (hK : X.K = K) : CallR X (.builtin "sorted") (rSortedI K) := hK ▸ cr_sortedI
theorem call_allK (hK : X.K = K) (hc : X.calm = true) : CallR X (.builtin "all") (rAll K) := hK ▸ cr_all hc
theorem call_anyK (hK : X.K = K) (hc : X.calm = true) : CallR X (.builtin "any") (rAny K) := hK ▸ cr_any hc
end
section
variable {σ : L2.St} {H : Hp} {Q : VK} {x : V} {b : Bool}
theorem r_isB : gIsB x (.bl b) H Q = Q (.bl (decide (x = .bl b))) H := propext ⟨fun ⟨_, e, q⟩ => by cases e; exact q, fun q => ⟨b, rfl, q⟩⟩
theorem r_notB : gNotB x (.bl b) H Q = Q (.bl (!decide (x = .bl b))) H := propext ⟨fun ⟨_, e, q⟩ => by cases e; exact q, fun q => ⟨b, rfl, q⟩⟩
theorem x_dpop2 {td ty tx : TE} : tDPop2 td ty tx σ H Q = td σ H fun x H1 => ∃ a, x = .ref a ∧ IsD H1 a ∧ ty σ H1 fun y H2 => tx σ H2 fun z H3 => ∃ kvs k, H3 a = some (.dK kvs) ∧ y = kV k ∧
  (∀ v, valV kvs k = some v → Q v (upd H3 a (.dK (dropK kvs k)))) ∧ (valV kvs k = none → Q z H3) := rfl
theorem r_isi {v : V} {T t : String} (e : tyOf v H = some t) (q : Q (.bl (isB t T)) H) (hT : T ∈ (["int", "bool", "str", "list", "tuple", "dict"] : List String) := by decide) : gIsi [v, .ty T] H Q := ⟨hT, t, e, q⟩
theorem r_isiL {a : Addr} {xs : List V} (h : H a = some (.lst xs)) (q : Q (.bl true) H) : gIsi [.ref a, .ty "list"] H Q := r_isi (t := "list") (by show tyO (H a) = _; rw [h]; rfl) q
theorem r_isiT {a : Addr} {xs : List V} (h : H a = some (.tup xs)) (q : Q (.bl true) H) : gIsi [.ref a, .ty "tuple"] H Q := r_isi (t := "tuple") (by show tyO (H a) = _; rw [h]; rfl) q
theorem r_isiII {n : Int} : gIsi [.int n, .ty "int"] H Q = Q (.bl true) H := propext ⟨fun ⟨_, t, e, q⟩ => by cases e; exact q, fun q => ⟨by decide, _, rfl, q⟩⟩
theorem r_isiBB : gIsi [.bl b, .ty "bool"] H Q = Q (.bl true) H := propext ⟨fun ⟨_, t, e, q⟩ => by cases e; exact q, fun q => ⟨by decide, _, rfl, q⟩⟩
theorem r_isiIB {n : Int} : gIsi [.int n, .ty "bool"] H Q = Q (.bl false) H := propext ⟨fun ⟨_, t, e, q⟩ => by cases e; exact q, fun q => ⟨by decide, _, rfl, q⟩⟩
theorem r_isiSS {z : Str} : gIsi [.str z, .ty "str"] H Q = Q (.bl true) H := propext ⟨fun ⟨_, t, e, q⟩ => by cases e; exact q, fun q => ⟨by decide, _, rfl, q⟩⟩
theorem r_neNS {K : PySem.W.Frag} {z : Str} : gNe K .non (.str z) H Q = Q (.bl true) H := rfl
theorem r_neSN {K : PySem.W.Frag} {z : Str} : gNe K (.str z) .non H Q = Q (.bl true) H := rfl
theorem r_neNN {K : PySem.W.Frag} : gNe K .non .non H Q = Q (.bl false) H := rfl
theorem r_eqNS {K : PySem.W.Frag} {z : Str} : gEq K .non (.str z) H Q = Q (.bl false) H := rfl
theorem r_eqSN {K : PySem.W.Frag} {z : Str} : gEq K (.str z) .non H Q = Q (.bl false) H := rfl
theorem r_eqNN {K : PySem.W.Frag} : gEq K .non .non H Q = Q (.bl true) H := rfl
theorem r_eqIS {K : PySem.W.Frag} {n : Int} {z : Str} : gEq K (.int n) (.str z) H Q = Q (.bl false) H := rfl
theorem r_neIS {K : PySem.W.Frag} {n : Int} {z : Str} : gNe K (.int n) (.str z) H Q = Q (.bl true) H := rfl
theorem r_neSI {K : PySem.W.Frag} {n : Int} {z : Str} : gNe K (.str z) (.int n) H Q = Q (.bl true) H := rfl
theorem r_neBS {K : PySem.W.Frag} {z : Str} : gNe K (.bl b) (.str z) H Q = Q (.bl true) H := rfl
theorem r_eqBB {K : PySem.W.Frag} {c : Bool} : gEq K (.bl b) (.bl c) H Q = Q (.bl (b == c)) H := rfl
theorem r_neBB {K : PySem.W.Frag} {c : Bool} : gNe K (.bl b) (.bl c) H Q = Q (.bl (!(b == c))) H := rfl
theorem r_ixL {K : PySem.W.Frag} {a : Addr} {xs : List V} {i : Nat} {v : V} (h : H a = some (.lst xs)) (e : xs[i]? = some v) (q : Q v H) : rIx K (.ref a) (.int (i : Int)) H Q := .inl ⟨_, _, _, _, rfl, rfl, .of h, by
  have hl := (List.getElem?_eq_some_iff.mp e).1
  unfold atI ixN
  rw [if_pos (by omega), if_pos (by omega), Int.toNat_natCast]
  exact e, q⟩
end
/-! ### isinstance(e, (C, D, ..)) of a caught error -/
def tIsQ (K : PySem.W.Frag) (x : V) (cs : List V) (H : Hp) (Q : VK) : Prop := cs.length ≤ sizeLine ∧ ∃ a D us b, x = .ref a ∧ H a = some (ExA (.ref D) a) ∧ ExcC K D ∧ Paired ClsV cs us ∧ PySem.W.kitAny K (.ref D) us = some b ∧ Q (.bl b) H
theorem x_isT {K : PySem.W.Frag} {σ : L2.St} {H : Hp} {Q : VK} {ta : TE} {tc : TA} : tIsT K ta tc σ H Q = ta σ H fun x H1 => tc σ H1 fun cs H2 => tIsQ K x cs H2 Q := rfl
inductive NamesK (K : PySem.W.Frag) : List V → List Str → Prop where
  | nil : NamesK K [] []
  | cons (c : Str) {cs : List V} {ns : List Str} (t : NamesK K cs ns) : NamesK K (.ref (ga K c) :: cs) (c :: ns)
theorem NamesK.len {K : PySem.W.Frag} {cs : List V} {ns : List Str} (h : NamesK K cs ns) : cs.length = ns.length := by
  induction h with
  | nil => rfl
  | cons c t ih => exact congrArg (· + 1) ih
theorem NamesK.pair {K : PySem.W.Frag} {cs : List V} {ns : List Str} (h : NamesK K cs ns) : Paired ClsV cs (ns.map fun c => Value.ref (ga K c)) := by
  induction h with
  | nil => exact .nil
  | cons c t ih => exact .cons (.own _) ih
theorem Told.anyOf {fa : List Fa} {fn : List DefD} {xl : XL} {K : PySem.W.Frag} {mg : Str → Option Value} (T : Told fa fn xl K mg) {d : Str} (hd : d ∈ xl.ex) : ∀ ns : List Str, (∀ c ∈ ns, c ∈ xl.ex) → PySem.W.kitAny K (.ref (ga K d)) (ns.map fun c => Value.ref (ga K c)) = some (ns.any (under d))
  | [], _ => rfl
  | c :: r, h => by
    show (match PySem.W.kitOne K (.ref (ga K d)) (.ref (ga K c)) with
      | some true => some true
      | some false => PySem.W.kitAny K (.ref (ga K d)) (r.map fun c => Value.ref (ga K c))
      | none => none) = some (under d c || r.any (under d))
    rw [((T.err hd).2.2 c (h c (List.mem_cons_self))).1]
    cases under d c with
    | true => rfl
    | false => exact T.anyOf hd r fun c hc => h c (List.mem_cons_of_mem _ hc)
theorem Told.isA {fa : List Fa} {fn : List DefD} {xl : XL} {K : PySem.W.Frag} {mg : Str → Option Value} (T : Told fa fn xl K mg) {d : Str} {a : Addr} {H : Hp} {Q : VK} {cs : List V} {ns : List Str} {b : Bool} (ha : H a = some (ExA (.ref (ga K d)) a)) (n : NamesK K cs ns)
    (hd : d ∈ xl.ex) (hc : (ns.all fun c => decide (c ∈ xl.ex)) = true) (hl : ns.length ≤ 1000) (e : ns.any (under d) = b) (q : Q (.bl b) H) : tIsQ K (.ref a) cs H Q :=
  ⟨by rw [n.len, sizeLine_eq]; omega, a, _, _, b, rfl, ha, (T.err hd).1, n.pair, (T.anyOf hd ns fun c h => of_decide_eq_true (List.all_eq_true.mp hc c h)).trans (congrArg some e), q⟩
end G
namespace G
open PySem PySem.Spec PySem.Calls PyProof.Rows L2 He
/-! ### == of data of some depth -/
def ShK (k : Nat) (d : PyData) : Prop := d.canLay0 = true ∧ d.depth ≤ k
theorem ShK.up {k n : Nat} {d : PyData} (h : ShK k d) (e : k ≤ n) : ShK n d := ⟨h.1, Nat.le_trans h.2 e⟩
theorem ShK.all {k : Nat} : ∀ {ds : List PyData}, (∀ z ∈ ds, ShK k z) → PyData.canLayAll0 ds = true ∧ PyData.depthAll ds ≤ k
  | [], _ => ⟨by simp [PyData.canLayAll0], by simp [PyData.depthAll]⟩
  | z :: zs, h => by
    have h1 := ShK.all (ds := zs) fun y hy => h y (List.mem_cons_of_mem _ hy)
    have h2 := h z (List.mem_cons_self)
    refine ⟨by simp [PyData.canLayAll0, h2.1, h1.1], ?_⟩
    have a := h2.2
    have b := h1.2
    simp only [PyData.depthAll]
    omega
theorem ShK.lst {k : Nat} {ds : List PyData} (h : ∀ z ∈ ds, ShK k z) : ShK (k + 1) (.list ds) := by
  have a := ShK.all h
  refine ⟨by simp [PyData.canLay0, a.1], ?_⟩
  have b := a.2
  simp only [PyData.depth]
  omega
theorem ShK.tup {k : Nat} {ds : List PyData} (h : ∀ z ∈ ds, ShK k z) : ShK (k + 1) (.tuple ds) := by
  have a := ShK.all h
  refine ⟨by simp [PyData.canLay0, a.1], ?_⟩
  have b := a.2
  simp only [PyData.depth]
  omega
theorem ShK.ok {k : Nat} {d : PyData} (h : ShK k d) (e : k ≤ 64) : SeqAt.shaped d = true := by
  show (d.canLay0 && decide (d.depth ≤ 64)) = true
  rw [h.1, decide_eq_true (Nat.le_trans h.2 e)]
  rfl
/-- flat things as data -/
def toD : V → PyData
  | .bl b => .bool b
  | .int i => .int i
  | _ => .none
def flatI : V → Bool
  | .non => true
  | .bl _ => true
  | .int _ => true
  | _ => false
theorem toD_sh {v : V} : ShK 0 (toD v) := by cases v <;> exact ⟨by simp [toD, PyData.canLay0], by simp [toD, PyData.depth]⟩
theorem toD_dp {K : PySem.W.Frag} {H : Hp} {v : V} (h : flatI v = true) : Dp K H v (toD v) := by
  cases v <;> first | (cases h; done) | skip
  · exact .non
  · exact .bl _
  · exact .int _
theorem toDs_dp {K : PySem.W.Frag} {H : Hp} : ∀ {xs : List V}, (∀ x ∈ xs, flatI x = true) → DpAll K H xs (xs.map toD)
  | [], _ => .nil
  | _ :: _, h => .cons (toD_dp (h _ (List.mem_cons_self))) (toDs_dp fun y hy => h y (List.mem_cons_of_mem _ hy))
theorem toDs_sh {xs : List V} : ∀ z ∈ xs.map toD, ShK 0 z := fun z h => by
  obtain ⟨v, -, e⟩ := List.mem_map.mp h
  subst e
  exact toD_sh
/-- lists of flat things; of tuples of flat things -/
theorem dp_flat {K : PySem.W.Frag} {H : Hp} {a : Addr} {xs : List V} (h : H a = some (.lst xs)) (f : ∀ x ∈ xs, flatI x = true) : Dp K H (.ref a) (.list (xs.map toD)) := .lst (.of h) (toDs_dp f)
theorem sh_flat {xs : List V} : SeqAt.shaped (.list (xs.map toD)) = true := (ShK.lst toDs_sh).ok (by decide)
inductive TupAll (H : Hp) : List V → List (List V) → Prop where
  | nil : TupAll H [] []
  | cons {tp : Addr} {xs : List V} {rs : List V} {yss : List (List V)} (h : H tp = some (.tup xs)) (f : ∀ x ∈ xs, flatI x = true) (t : TupAll H rs yss) : TupAll H (.ref tp :: rs) (xs :: yss)
def tupD (yss : List (List V)) : PyData := .list (yss.map fun xs => .tuple (xs.map toD))
theorem TupAll.dp {K : PySem.W.Frag} {H : Hp} : ∀ {rs : List V} {yss : List (List V)}, TupAll H rs yss → DpAll K H rs (yss.map fun xs => .tuple (xs.map toD))
  | _, _, .nil => .nil
  | _, _, .cons h f t => .cons (.tup (.inl (.inl h)) (toDs_dp f)) t.dp
theorem TupAll.same {H H' : Hp} {rs : List V} {yss : List (List V)} (h : TupAll H rs yss) (s : Same H H') : TupAll H' rs yss := by
  induction h with
  | nil => exact .nil
  | cons h f t ih => exact .cons (s _ _ h) f ih
theorem TupAll.snoc {H : Hp} {rs : List V} {yss : List (List V)} {tp : Addr} {xs : List V} (h : TupAll H rs yss) (e : H tp = some (.tup xs)) (f : ∀ x ∈ xs, flatI x = true) : TupAll H (rs ++ [.ref tp]) (yss ++ [xs]) := by
  induction h with
  | nil => exact .cons e f .nil
  | cons h f' t ih => exact .cons h f' ih
theorem TupAll.put {H : Hp} {rs : List V} {yss : List (List V)} {D : Addr} {o o' : HO} (h : TupAll H rs yss) (e : H D = some o) (n : ∀ xs, o ≠ .tup xs) : TupAll (upd H D o') rs yss := by
  induction h with
  | nil => exact .nil
  | cons h f t ih => exact .cons (by rw [upd_ne (ne_of h e fun z => n _ z.symm)]; exact h) f ih
theorem TupAll.len {H : Hp} {rs : List V} {yss : List (List V)} (h : TupAll H rs yss) : rs.length = yss.length := by
  induction h with
  | nil => rfl
  | cons h f t ih => exact congrArg (· + 1) ih
theorem TupAll.mem {H : Hp} {rs : List V} {yss : List (List V)} (h : TupAll H rs yss) : ∀ r ∈ rs, ∃ tp xs, r = .ref tp ∧ H tp = some (.tup xs) ∧ xs ∈ yss := by
  induction h with
  | nil => exact fun r h => (List.not_mem_nil h).elim
  | cons h f t ih =>
    intro r hr
    rcases List.mem_cons.mp hr with rfl | hr
    · exact ⟨_, _, rfl, h, List.mem_cons_self⟩
    · obtain ⟨tp, xs, e, h', m⟩ := ih r hr
      exact ⟨tp, xs, e, h', List.mem_cons_of_mem _ m⟩
theorem dp_tups {K : PySem.W.Frag} {H : Hp} {a : Addr} {rs : List V} {yss : List (List V)} (h : H a = some (.lst rs)) (t : TupAll H rs yss) : Dp K H (.ref a) (tupD yss) := .lst (.of h) t.dp
theorem sh_tups {yss : List (List V)} : SeqAt.shaped (tupD yss) = true := by
  refine (ShK.lst (k := 1) fun z h => ?_).ok (by decide)
  obtain ⟨xs, -, e⟩ := List.mem_map.mp h
  subst e
  exact ShK.tup toDs_sh
theorem shaped_refl {d : PyData} (s : SeqAt.shaped d = true) : PyData.eqv d d = true := PySem.SeqAt.eqv_refl d (SeqAt.canLay_of_shaped s)
theorem r_eqSame {K : PySem.W.Frag} {H : Hp} {Q : VK} {a b : Addr} {d : PyData} (h1 : Dp K H (.ref a) d) (h2 : Dp K H (.ref b) d) (s : SeqAt.shaped d = true) (q : Q (.bl true) H) : gEq K (.ref a) (.ref b) H Q := ⟨d, d, h1, h2, s, s, by rw [shaped_refl s]; exact q⟩
theorem r_neSame {K : PySem.W.Frag} {H : Hp} {Q : VK} {a b : Addr} {d : PyData} (h1 : Dp K H (.ref a) d) (h2 : Dp K H (.ref b) d) (s : SeqAt.shaped d = true) (q : Q (.bl false) H) : gNe K (.ref a) (.ref b) H Q := ⟨d, d, h1, h2, s, s, by rw [shaped_refl s]; exact q⟩
theorem getD_range {ts : List V} {d : V} : (List.range ts.length).map (fun i => ts.getD i d) = ts := by
  refine List.ext_getElem (by rw [List.length_map, List.length_range]) fun i h1 h2 => ?_
  rw [List.getElem_map, List.getElem_range, List.getD_eq_getElem?_getD, List.getElem?_eq_getElem h2]
  rfl
theorem getD_at {α : Type} {ts : List α} {d : α} {i : Nat} (h : i < ts.length) : ts[i]? = some (ts.getD i d) := by
  rw [List.getElem?_eq_getElem h, List.getD_eq_getElem?_getD, List.getElem?_eq_getElem h]
  rfl
theorem r_ixT {K : PySem.W.Frag} {H : Hp} {Q : VK} {a : Addr} {xs : List V} {i : Nat} {v : V} (h : H a = some (.tup xs)) (e : xs[i]? = some v) (q : Q v H) : rIx K (.ref a) (.int (i : Int)) H Q := .inr (.inl ⟨_, _, _, _, rfl, rfl, .inl (.inl h), by
  have hl := (List.getElem?_eq_some_iff.mp e).1
  unfold atI ixN
  rw [if_pos (by omega), if_pos (by omega), Int.toNat_natCast]
  exact e, q⟩)
theorem op_catTK {X : Cx} {K : PySem.W.Frag} (hK : X.K = K) : OpR X (binaryOp .Add) (rCatT K) := hK ▸ op_catT
theorem r_cat {K : PySem.W.Frag} {H : Hp} {Q : VK} {a b : Addr} {xs ys : List V} (h1 : H a = some (.tup xs)) (h2 : H b = some (.tup ys)) (nx : xs ≠ []) (ny : ys ≠ []) (hl : xs.length + ys.length ≤ sizeLine) (q : ∀ p, H p = none → Q (.ref p) (upd H p (.tup (xs ++ ys)))) : rCatT K (.ref a) (.ref b) H Q :=
  ⟨a, b, xs, ys, rfl, rfl, .inl (.inl h1), .inl (.inl h2), nx, hl, fun e => absurd e ny, fun _ => q⟩
/-- addresses that are in use -/
def Live (H : Hp) (L : List Addr) : Prop := L.Nodup ∧ ∀ c ∈ L, ∃ o, H c = some o
theorem Live.nil {H : Hp} : Live H [] := ⟨List.nodup_nil, fun c h => (List.not_mem_nil h).elim⟩
theorem Live.same {H H' : Hp} {L : List Addr} (h : Live H L) (s : Same H H') : Live H' L := ⟨h.1, fun c m => let ⟨o, e⟩ := h.2 c m; ⟨o, s _ _ e⟩⟩
theorem Live.cons {H H' : Hp} {L : List Addr} {x : Addr} {o : HO} (h : Live H L) (s : Same H H') (e : H x = none) (e' : H' x = some o) : Live H' (x :: L) := by
  refine ⟨List.nodup_cons.mpr ⟨fun m => ?_, h.1⟩, fun c m => ?_⟩
  · obtain ⟨o, g⟩ := h.2 x m
    rw [e] at g
    cases g
  · rcases List.mem_cons.mp m with rfl | m
    · exact ⟨_, e'⟩
    · obtain ⟨o, g⟩ := h.2 c m
      exact ⟨o, s _ _ g⟩
/-! ### enumerate -/
theorem x_enum {σ : L2.St} {H : Hp} {ta : TA} {R : It → Hp → Prop} {K : PySem.W.Frag} : iEnum K ta σ H R = ta σ H fun vs H1 => ∃ a xs, vs = [.ref a] ∧ SqL K H1 a xs ∧ R (Ite K a) H1 := rfl
end G
namespace G
open PySem PySem.Spec PySem.Calls PyProof.Rows L2 He
/-! ### while -/
def WhB (W : Nat → L2.St → Hp → Prop) (k : Nat) (tb : TS) (D : Ends) (σ : L2.St) (H : Hp) : Prop :=
  ∃ N : L2.St → Hp → Prop, (∀ σ' H', N σ' H' → ∃ m', m' < k ∧ W m' σ' H') ∧ tb { D with nx := N, ct := N, bk := D.nx } σ H
theorem whW {c : TT} {tb : TS} {D : Ends} {σ : L2.St} {H : Hp} (W : Nat → L2.St → Hp → Prop) (h0 : ∃ k, W k σ H) (hs : ∀ k σ H, W k σ H → c σ H fun b H1 => if b = true then WhB W k tb D σ H1 else D.nx σ H1) : tWhile c tb D σ H :=
  ⟨W, h0, hs⟩
theorem whB {W : Nat → L2.St → Hp → Prop} {k : Nat} {tb : TS} {D : Ends} {σ : L2.St} {H : Hp} (h : tb { D with nx := fun σ' H' => ∃ m', m' < k ∧ W m' σ' H', ct := fun σ' H' => ∃ m', m' < k ∧ W m' σ' H', bk := D.nx } σ H) : WhB W k tb D σ H :=
  ⟨_, fun _ _ q => q, h⟩
end G
namespace G
open PySem PySem.Spec PySem.Calls PyProof.Rows L2 He
theorem call_sumK {X : Cx} {K : PySem.W.Frag} (hK : X.K = K) (hc : X.calm = true) : CallR X (.builtin "sum") (rSum K) := hK ▸ cr_sum hc
theorem r_sumL {K : PySem.W.Frag} {H : Hp} {Q : VK} {a : Addr} {ns : List Int} (h : H a = some (.lst (ns.map V.int))) (q : Q (.int ns.sum) H) : rSum K [.ref a] H Q := ⟨a, ns, rfl, .of h, q⟩
/-- all of a list of truths is true -/
theorem r_allT {K : PySem.W.Frag} {H : Hp} {Q : VK} {a : Addr} {n : Nat} (h : H a = some (.lst (List.replicate n (.bl true)))) (q : Q (.bl true) H) : rAll K [.ref a] H Q := by
  refine ⟨a, List.replicate n true, rfl, .of (by rw [List.map_replicate]; exact h), ?_⟩
  rw [show (List.replicate n true).all id = true from List.all_eq_true.mpr fun b hb => (List.mem_replicate.mp hb).2]
  exact q
/-- [True for .. in xs] -/
theorem lc_trueL {σ : L2.St} {vs : List Nat} {H1 : Hp} {D : Addr} {Qd : Hp → Prop} {te : TE} {k : Nat} {K : PySem.W.Frag} {a : Addr} {xs : List V} (hw : ∀ v, wipe ((wipe σ vs).set k (some v)) vs = wipe σ vs) (hl : ∀ acc, SqL K (upd H1 D (.lst acc)) a xs) (hn : xs.length ≤ sizeLine)
    (he : ∀ (i : Nat) (x : V), xs[i]? = some x → ∀ acc (Q : VK), Q (.bl true) (upd H1 D (.lst acc)) → te ((wipe σ vs).set k (some x)) (upd H1 D (.lst acc)) Q) (hd : Qd (upd H1 D (.lst (List.replicate xs.length (.bl true))))) :
    ∃ W : Nat → Nat → Hp → Prop, (∃ m, W 0 m (upd H1 D (.lst []))) ∧ ∀ i m H, W i m H →
      ((Itl K a).stop i H ∧ Qd H) ∨ ((Itl K a).go i H ∧ ∃ Nx : Hp → Prop, (∀ H', Nx H' → ∃ m', m' < m ∧ W (i + 1) m' H') ∧ ∀ x H', (Itl K a).yld i H x H' → gName k x (wipe σ vs) H' fun σ2 H2 => wipe σ2 vs = wipe σ vs ∧ tYes σ2 H2 fun b H3 =>
        if b = true then te σ2 H3 fun y H4 => ∃ acc, H4 D = some (.lst acc) ∧ acc.length < sizeLine ∧ Nx (upd H4 D (.lst (acc ++ [y]))) else Nx H3) :=
  lc_mapL (ys := List.replicate xs.length (.bl true)) hw hl hn (List.length_replicate) (fun i x y hx hy acc Q q => by
    have e := (List.mem_replicate.mp (List.mem_of_getElem? hy)).2
    subst e
    exact he i x hx acc Q q) hd
/-- whole numbers in a list -/
theorem ints_mem {ns : List Int} {i : Nat} {x : V} (h : (ns.map V.int)[i]? = some x) : ∃ n, x = .int n ∧ n ∈ ns := by
  obtain ⟨n, m, e⟩ := List.mem_map.mp (List.mem_of_getElem? h)
  exact ⟨n, e.symm, m⟩
theorem ints_flat {ns : List Int} : ∀ x ∈ ns.map V.int, flatI x = true := fun x h => by
  obtain ⟨i, -, e⟩ := List.mem_map.mp h
  subst e
  rfl
theorem dp_ints {K : PySem.W.Frag} {H : Hp} {a : Addr} {ns : List Int} (h : H a = some (.lst (ns.map V.int))) : Dp K H (.ref a) (.list ((ns.map V.int).map toD)) := dp_flat h ints_flat
/-- two lists of the same whole numbers -/
theorem r_eqInts {K : PySem.W.Frag} {H : Hp} {Q : VK} {a b : Addr} {ns : List Int} (h1 : H a = some (.lst (ns.map V.int))) (h2 : H b = some (.lst (ns.map V.int))) (q : Q (.bl true) H) : gEq K (.ref a) (.ref b) H Q := r_eqSame (dp_ints h1) (dp_ints h2) sh_flat q
theorem r_neInts {K : PySem.W.Frag} {H : Hp} {Q : VK} {a b : Addr} {ns : List Int} (h1 : H a = some (.lst (ns.map V.int))) (h2 : H b = some (.lst (ns.map V.int))) (q : Q (.bl false) H) : gNe K (.ref a) (.ref b) H Q := r_neSame (dp_ints h1) (dp_ints h2) sh_flat q
/-- [text, thing]: what law's tries tell -/
inductive PlD : V → PyData → Prop where
  | non : PlD .non .none
  | bl (b : Bool) : PlD (.bl b) (.bool b)
  | int (i : Int) : PlD (.int i) (.int i)
  | str (z : Str) (h : PyData.strOk z = true) : PlD (.str z) (.str z)
theorem PlD.dp {K : PySem.W.Frag} {H : Hp} {v : V} {d : PyData} (h : PlD v d) : Dp K H v d := by
  cases h with
  | non => exact .non
  | bl b => exact .bl b
  | int i => exact .int i
  | str z h => exact .str z
theorem PlD.sh {v : V} {d : PyData} (h : PlD v d) : ShK 0 d := by
  cases h with
  | str z h => exact ⟨by simp only [PyData.canLay0]; exact h, by simp [PyData.depth]⟩
  | _ => exact ⟨by simp [PyData.canLay0], by simp [PyData.depth]⟩
inductive PlAll : List V → List PyData → Prop where
  | nil : PlAll [] []
  | cons {v : V} {d : PyData} {vs : List V} {ds : List PyData} (h : PlD v d) (t : PlAll vs ds) : PlAll (v :: vs) (d :: ds)
theorem PlAll.dp {K : PySem.W.Frag} {H : Hp} {vs : List V} {ds : List PyData} (h : PlAll vs ds) : DpAll K H vs ds := by
  induction h with
  | nil => exact .nil
  | cons h t ih => exact .cons h.dp ih
theorem PlAll.sh {vs : List V} {ds : List PyData} (h : PlAll vs ds) : ∀ z ∈ ds, ShK 0 z := by
  induction h with
  | nil => exact fun z h => (List.not_mem_nil h).elim
  | cons h t ih =>
    intro z m
    rcases List.mem_cons.mp m with rfl | m
    · exact h.sh
    · exact ih z m
/-- == of lists of plain things -/
theorem r_eqPl {K : PySem.W.Frag} {H : Hp} {Q : VK} {a b : Addr} {xs ys : List V} {ds es : List PyData} (h1 : H a = some (.lst xs)) (h2 : H b = some (.lst ys)) (p1 : PlAll xs ds) (p2 : PlAll ys es) (q : Q (.bl (PyData.eqv (.list ds) (.list es))) H) : gEq K (.ref a) (.ref b) H Q :=
  ⟨_, _, .lst (.of h1) p1.dp, .lst (.of h2) p2.dp, (ShK.lst p1.sh).ok (by decide), (ShK.lst p2.sh).ok (by decide), q⟩
theorem r_nePl {K : PySem.W.Frag} {H : Hp} {Q : VK} {a b : Addr} {xs ys : List V} {ds es : List PyData} (h1 : H a = some (.lst xs)) (h2 : H b = some (.lst ys)) (p1 : PlAll xs ds) (p2 : PlAll ys es) (q : Q (.bl (!PyData.eqv (.list ds) (.list es))) H) : gNe K (.ref a) (.ref b) H Q :=
  ⟨_, _, .lst (.of h1) p1.dp, .lst (.of h2) p2.dp, (ShK.lst p1.sh).ok (by decide), (ShK.lst p2.sh).ok (by decide), q⟩
theorem r_eqPlT {K : PySem.W.Frag} {H : Hp} {Q : VK} {a b : Addr} {xs : List V} {ds : List PyData} (h1 : H a = some (.lst xs)) (h2 : H b = some (.lst xs)) (p : PlAll xs ds) (q : Q (.bl true) H) : gEq K (.ref a) (.ref b) H Q :=
  r_eqSame (.lst (.of h1) p.dp) (.lst (.of h2) p.dp) ((ShK.lst p.sh).ok (by decide)) q
theorem r_nePlT {K : PySem.W.Frag} {H : Hp} {Q : VK} {a b : Addr} {xs : List V} {ds : List PyData} (h1 : H a = some (.lst xs)) (h2 : H b = some (.lst xs)) (p : PlAll xs ds) (q : Q (.bl false) H) : gNe K (.ref a) (.ref b) H Q :=
  r_neSame (.lst (.of h1) p.dp) (.lst (.of h2) p.dp) ((ShK.lst p.sh).ok (by decide)) q
end G
namespace G
open PySem PySem.Spec PySem.Calls PyProof.Rows L2 He
/-! ### isinstance of an own class's instance; in a written tuple -/
theorem call_isiK {X : Cx} {K : PySem.W.Frag} (hK : X.K = K) : CallR X (.builtin "isinstance") (rIsi K) := hK ▸ call_isi
theorem r_isiIns {K : PySem.W.Frag} {H : Hp} {Q : VK} {a C dx : Addr} {fs : List (Str × V)} (h : H a = some (.ins C dx fs)) (c : Cls K C) (n : ClN K C) (q : Q (.bl false) H) : rIsi K [.ref a, .ty "str"] H Q :=
  ⟨_, _, _, _, _, rfl, .ty _, .base (TyOf.ins h c n.ha n.hn n.htk n.hm), n.no, q⟩
theorem r_isiOwn {K : PySem.W.Frag} {H : Hp} {Q : VK} {a C dx : Addr} {fs : List (Str × V)} (h : H a = some (.ins C dx fs)) (c : Cls K C) (n : ClN K C) (q : Q (.bl true) H) : rIsi K [.ref a, .ref C] H Q :=
  ⟨_, _, _, _, _, rfl, .own _, .base (TyOf.ins h c n.ha n.hn n.htk n.hm), (by show (if (Value.ref C == Value.ref C) = true then some true else _) = _; rw [if_pos (beq_self_eq_true _)]), q⟩
theorem r_isiPl {K : PySem.W.Frag} {H : Hp} {Q : VK} {x : V} {t n : String} (h : tyOf x H = some t) (hn : n ∈ (["int", "bool", "str", "list", "tuple", "dict"] : List String)) (q : Q (.bl (isB t n)) H) : rIsi K [x, .ty n] H Q :=
  ⟨_, _, _, _, _, rfl, .ty _, tyOf_ok h, kit_ty (isB_all t (tyOf_in h) _ hn), q⟩
/-- x in a written tuple: flat things; data -/
def rInG (K : PySem.W.Frag) (neg : Bool) : R2 := fun x y H Q => rIn K neg x y H Q ∨ ∃ d ds, Dp K H x d ∧ Dp K H y (.tuple ds) ∧ SeqAt.shaped d = true ∧ SeqAt.shaped (.tuple ds) = true ∧ Q (.bl (if neg then !ds.any fun z => PyData.eqv z d else ds.any fun z => PyData.eqv z d)) H
theorem op_inTG {X : Cx} {K : PySem.W.Frag} (hK : X.K = K) (hu : X.A.units + 65 < cLine) : OpR X (compareOp .In) (rInG K false) := by
  subst hK
  intro pins s σ H x y v u Q I rx ry h
  rcases h with h | ⟨d, ds, hd, he, sd, se, q⟩
  · exact op_in_seq pins s σ H x y v u Q I rx ry h
  obtain ⟨as, r1⟩ := Dp.reads I d x v hd rx
  obtain ⟨bs, r2⟩ := Dp.reads I (.tuple ds) y u he ry
  exact SeqAt.in_tuple_reads r2 r1 (SeqAt.canLay_of_shaped se) (SeqAt.canLay_of_shaped sd) (room_in_shaped sd hu) ⟨.bl _, H, I, rfl, q⟩
theorem op_ninTG {X : Cx} {K : PySem.W.Frag} (hK : X.K = K) (hu : X.A.units + 65 < cLine) : OpR X (compareOp .NotIn) (rInG K true) := by
  subst hK
  intro pins s σ H x y v u Q I rx ry h
  rcases h with h | ⟨d, ds, hd, he, sd, se, q⟩
  · exact op_notIn_seq pins s σ H x y v u Q I rx ry h
  obtain ⟨as, r1⟩ := Dp.reads I d x v hd rx
  obtain ⟨bs, r2⟩ := Dp.reads I (.tuple ds) y u he ry
  exact SeqAt.notIn_tuple_reads r2 r1 (SeqAt.canLay_of_shaped se) (SeqAt.canLay_of_shaped sd) (room_in_shaped sd hu) ⟨.bl _, H, I, rfl, q⟩
end G
namespace G
open PySem PySem.Spec PySem.Calls PyProof.Rows L2 He
theorem hu65 {k : Nat} {A : Around} (r : Room k A) : A.units + 65 < cLine := by have := r.un; omega
theorem hu65N {k : Nat} {A : Around} (r : RoomN k A) : A.units + 65 < cLine := by have := r.un; omega
end G
namespace G
open PySem PySem.Spec PySem.Calls PyProof.Rows L2 He
/-! ### two named except clauses -/
section
variable {X : Cx} {x x2 n : Str} {c c2 : Value} {i : Nat} {body suite suite2 : List Stmt} {b0 b2 : Stmt} {np np2 pos pos' pos2' : Pos} {tb : WX → TS} {ts ts2 : TS} {Wo : WX}
theorem ps_tryT2 (hs : X.stack = X.env :: X.outer) (hf : X.env.frame = some X.env.locals) (hex : X.ex = []) (hN : X.N.Nodup) (hi : X.N[i]? = some n) (hln : X.env.kindOf n = some .local) (hc : Names X x c) (hc2 : Names X x2 c2) (tk : Takes X Wo)
    (hb : ∀ (W : WX) (pn : List (Addr × Obj)) (xe : Value → Shared → Prop), Takes (X.tr pn xe) W → PassesOwn (model X.prog X.w) X.A X.env xe → PSs (X.tr pn xe) body (tb W))
    (hsu : ∀ (a : Addr) (pn : List (Addr × Obj)), PSs (X.suite a pn) (b0 :: suite) ts) (hsu2 : ∀ (a : Addr) (pn : List (Addr × Obj)), PSs (X.suite a pn) (b2 :: suite2) ts2) :
    PS X (.Try body [.ExceptHandler (some (.Name x np)) (some n) (b0 :: suite) pos', .ExceptHandler (some (.Name x2 np2)) (some n) (b2 :: suite2) pos2'] [] [] pos) (fun D σ H => tb (wTr X.K c i ts (wTr X.K c2 i ts2 Wo D) D) D σ H) := by
  refine ⟨fun pins s σ H D I h => ?_⟩
  have ok := I.ok
  have hfr : X.A.frames = some (X.env :: X.outer) := by rw [ok.frames, hs]
  have lo : Loc X.env.scope n := .inl hln
  let rest : List ExceptHandler := [.ExceptHandler (some (.Name x np)) (some n) (b0 :: suite) pos', .ExceptHandler (some (.Name x2 np2)) (some n) (b2 :: suite2) pos2']
  let M := model X.prog X.w
  let wish : Value → Shared → Prop := fun e u1 => wpAny M X.A (noteFrame e X.env) (fun _ u2 => wpAny M X.A (setFlight e none) (fun _ u3 => wpAny M X.A (handleBy e X.env rest) (SP X pins D) X.xe u3) X.xe u2) X.xe u1
  refine wpAny_Try_except (wpAny_mono ((hb (wTr X.K c i ts (wTr X.K c2 i ts2 Wo D) D) (X.pn ++ pins) wish (fun u s' air => ?_) PassesOwn.looking).run [] s σ H D (I.toTry _) h) (fun fl s1 hsp => ?_) (fun e s1 he => he))
  · obtain ⟨a, B, sg, pi', σ1, H1, cls, d, rfl, Jt, nb, up, sky, na, os, ag, b, e1, yes, no⟩ := air
    have J : Inv X pins σ1 H1 sg := Jt.ofTry ok
    have sky' : Sky B (X.env :: X.outer) a (Zc cls d) X.env.locals s'.heap := by rw [← hs]; exact sky
    show wpAny M X.A (noteFrame (.ref a) X.env) _ _ _
    refine Sky.land Zc.steady hfr hf sky' fun h3 fl3 up3 => ?_
    have u3 := up.trans up3
    have J3 : Inv X pins σ1 H1 { s' with heap := h3 } := J.landed nb fl3.1 u3 os ag
    obtain ⟨o3, f3, g3, z3, d3⟩ := fl3.there
    have nfr : a ∉ frs (X.env :: X.outer) := fun hm => by
      obtain ⟨-, o', g', nf⟩ := fl3.2.2.1.mem hm
      rw [g3] at g'
      cases g'
      exact nf _ d3
    have nL : a ≠ X.env.locals := fun z => nfr (List.mem_filterMap.mpr ⟨X.env, List.mem_cons_self, by rw [hf, z]⟩)
    have nst : a ∉ frs X.stack := by rw [hs]; exact nfr
    have nB : B.get? a = none := fl3.2.1
    have ng : sg.heap.get? a = none := by
      cases e : sg.heap.get? a with
      | none => rfl
      | some o =>
        rw [nb a o e nst] at nB
        cases nB
    have n0 : X.s_0.heap.get? a = none := by
      cases e : X.s_0.heap.get? a with
      | none => rfl
      | some o =>
        obtain ⟨o', q⟩ := J.base.there a o e (by rw [hex]; exact List.not_mem_nil)
        rw [ng] at q
        cases q
    have nC : ∀ y z, X.env.cells.lookup y = some z → z ≠ a := fun y z e q => by
      obtain ⟨v, ob, e2, -⟩ := J.cell y z e
      rw [q, ng] at e2
      cases e2
    have nP : ∀ p ∈ X.pn ++ pins, p.1 ≠ a := fun p hp q => by
      have e2 := (J.pin p hp).1
      rw [q, ng] at e2
      cases e2
    have S3 := toSuite J3 a
    refine wpAny_handleBy_cons (codeAny_handlers_test ?_) (by intro q; cases q)
    have LT : PySem.W.Looks M h3 (typeOf (.ref a)) cls := fun _ _ _ _ k q => wpAny_typeOf_ref (k _ _ g3) (by rw [z3.1]; exact q)
    have LM := PySem.W.exm_one (M := M) J3.kIn LT e1
    have test : ∀ {Q : Value → Shared → Prop} {E : Value → Shared → Prop}, Q c { s' with heap := h3 } → wpAny M (X.A.mark (some (.ref a))) (eval (.Name x np) X.env) Q E { s' with heap := h3 } := fun {Q E} q => by
      obtain ⟨hg, hdb, hm | ⟨hm, hv, hnn⟩⟩ := hc
      · exact ld_glob (X := X.suite a (X.pn ++ pins)) S3 hg hm q hdb
      · exact ld_blt (X := X.suite a (X.pn ++ pins)) S3 hg hm hv q hnn hdb
    refine test (LM.here ?_)
    cases b with
    | true =>
      refine codeAny_handlers_suite_as (HandSPX.lands_againZ fl3 fun h4 fl4 up4 => ?_)
      have J4 : Inv X pins σ1 H1 { s' with heap := h4 } := J.landed nb fl4.1 (u3.trans up4) os ag
      obtain ⟨o4, f4, g4, z4, d4⟩ := fl4.there
      obtain ⟨ed, go⟩ := yes rfl
      subst ed
      have J5 := track (u := ExA cls a) J4 na n0 nL nC nP (exA_ok g4 z4 d4)
      refine store_ok (X := X.suite a (X.pn ++ pins)) (v := .ref a) (toSuite J5 a) hN hi lo rfl (fun s5 S5 => ?_) (.inr hln)
      refine wpAny_mono ((hsu a (X.pn ++ pins)).run [] s5 _ _ _ S5 (go a na)) (fun fl s6 hsp => ?_) (fun _ _ z => False.elim z)
      have out : ∀ {σ6 : L2.St} {H6 : Hp} {Q : Shared → Prop}, Inv (X.suite a (X.pn ++ pins)) [] σ6 H6 s6 → (∀ s7, Inv X pins (σ6.set i none) H6 s7 → Q s7) →
          wpAny M X.A (do bindName X.env n .none; unbindBehindTheSuite X.env n pos') (fun _ s7 => Q s7) X.xe s6 := fun S6 hq => gone_ok (ofSuite ok S6) hN hi hln hq
      cases fl with
      | next => exact hsp.elim fun _ z => z.elim fun _ q => out q.1 fun s7 J7 => ⟨_, _, J7, q.2⟩
      | brk => exact hsp.elim fun _ z => z.elim fun _ q => out q.1 fun s7 J7 => ⟨_, _, J7, q.2⟩
      | cont => exact hsp.elim fun _ z => z.elim fun _ q => out q.1 fun s7 J7 => ⟨_, _, J7, q.2⟩
      | ret u =>
        obtain ⟨v6, σ6, H6, S6, r6, q6⟩ := hsp
        exact out S6 fun s7 J7 => ⟨_, _, _, J7, r6, q6⟩
    | false =>
      obtain ⟨b', e1', yes', no'⟩ := no rfl
      refine wpAny_handleBy_cons (codeAny_handlers_test ?_) (by intro q; cases q)
      have LM2 := PySem.W.exm_one (M := M) J3.kIn LT e1'
      have test2 : ∀ {Q : Value → Shared → Prop} {E : Value → Shared → Prop}, Q c2 { s' with heap := h3 } → wpAny M (X.A.mark (some (.ref a))) (eval (.Name x2 np2) X.env) Q E { s' with heap := h3 } := fun {Q E} q => by
        obtain ⟨hg, hdb, hm | ⟨hm, hv, hnn⟩⟩ := hc2
        · exact ld_glob (X := X.suite a (X.pn ++ pins)) S3 hg hm q hdb
        · exact ld_blt (X := X.suite a (X.pn ++ pins)) S3 hg hm hv q hnn hdb
      refine test2 (LM2.here ?_)
      cases b' with
      | true =>
        refine codeAny_handlers_suite_as (HandSPX.lands_againZ fl3 fun h4 fl4 up4 => ?_)
        have J4 : Inv X pins σ1 H1 { s' with heap := h4 } := J.landed nb fl4.1 (u3.trans up4) os ag
        obtain ⟨o4, f4, g4, z4, d4⟩ := fl4.there
        obtain ⟨ed, go⟩ := yes' rfl
        subst ed
        have J5 := track (u := ExA cls a) J4 na n0 nL nC nP (exA_ok g4 z4 d4)
        refine store_ok (X := X.suite a (X.pn ++ pins)) (v := .ref a) (toSuite J5 a) hN hi lo rfl (fun s5 S5 => ?_) (.inr hln)
        refine wpAny_mono ((hsu2 a (X.pn ++ pins)).run [] s5 _ _ _ S5 (go a na)) (fun fl s6 hsp => ?_) (fun _ _ z => False.elim z)
        have out : ∀ {σ6 : L2.St} {H6 : Hp} {Q : Shared → Prop}, Inv (X.suite a (X.pn ++ pins)) [] σ6 H6 s6 → (∀ s7, Inv X pins (σ6.set i none) H6 s7 → Q s7) →
            wpAny M X.A (do bindName X.env n .none; unbindBehindTheSuite X.env n pos2') (fun _ s7 => Q s7) X.xe s6 := fun S6 hq => gone_ok (ofSuite ok S6) hN hi hln hq
        cases fl with
        | next => exact hsp.elim fun _ z => z.elim fun _ q => out q.1 fun s7 J7 => ⟨_, _, J7, q.2⟩
        | brk => exact hsp.elim fun _ z => z.elim fun _ q => out q.1 fun s7 J7 => ⟨_, _, J7, q.2⟩
        | cont => exact hsp.elim fun _ z => z.elim fun _ q => out q.1 fun s7 J7 => ⟨_, _, J7, q.2⟩
        | ret u =>
          obtain ⟨v6, σ6, H6, S6, r6, q6⟩ := hsp
          exact out S6 fun s7 J7 => ⟨_, _, _, J7, r6, q6⟩
      | false =>
        show wpAny M X.A (handleBy (.ref a) X.env []) _ _ _
        refine wpAny_handleBy_nil ?_
        obtain ⟨-, -, -, oe, vs, T, oT, ts', he, hz, hd, h1, hr⟩ := id fl3
        unfold PySem.passOn
        refine wpAny_bind (wpAny_field he hd h1 ?_)
        rw [if_neg (show ¬ ((Value.ref T == Value.none) = true) from by simp)]
        have fin : wpAny M X.A (setFlight (.ref a) X.env.frame) (fun _ u4 => wpAny M X.A (throw (.ref a) : Sem Flow) (SP X pins D) X.xe u4) X.xe { s' with heap := h3 } := by
          rw [hf]
          refine HandSPX.setFlight_upZ fl3 fun h4 hh4 up4 => wpAny_throw (tk _ _ ?_)
          exact ⟨a, B, sg, pins, σ1, H1, cls, d, rfl, J, nb, u3.trans up4, .inr (.inr (by rw [hs]; exact hh4)), na, os, ag, no' rfl⟩
        first
          | exact wpAny_bind (wpAny_pure (wpAny_bind fin))
          | exact wpAny_bind fin
  · cases fl with
    | next => exact hsp.elim fun σ1 z => z.elim fun H1 q => wpAny_execs_nil ⟨σ1, H1, q.1.ofTry ok, q.2⟩
    | brk => exact hsp.elim fun σ1 z => z.elim fun H1 q => ⟨σ1, H1, q.1.ofTry ok, q.2⟩
    | cont => exact hsp.elim fun σ1 z => z.elim fun H1 q => ⟨σ1, H1, q.1.ofTry ok, q.2⟩
    | ret u =>
      obtain ⟨v, σ1, H1, J, r, q⟩ := hsp
      exact ⟨v, σ1, H1, J.ofTry ok, r, q⟩
end

section
variable {fa : List Fa} {fn : List DefD} {xl : XL} {K : PySem.W.Frag} {mg : Str → Option Value}
theorem Told.missed (T : Told fa fn xl K mg) {d c : Str} {i : Nat} {ts : TS} {Wo : WX} {D : Ends} {σ : L2.St} {H : Hp} (hd : d ∈ xl.ex) (hc : c ∈ xl.ex) (hu : under d c = false) (h : Wo (.ref (ga K d)) none σ H) :
    wTr K (.ref (ga K c)) i ts Wo D (.ref (ga K d)) none σ H :=
  ⟨false, by rw [((T.err hd).2.2 c hc).2, hu], (fun z => by cases z), (fun _ => h)⟩
theorem Told.caughtU (T : Told fa fn xl K mg) {d c : Str} {ts : Addr → Value → Option Addr → TS} {r : List (Value × (Addr → Value → Option Addr → TS))} {Wo : WX} {D : Ends} {σ : L2.St} {H : Hp} (hd : d ∈ xl.ex) (hc : c ∈ xl.ex) (hu : under d c = true)
    (h : ∀ a, H a = none → ts a (.ref (ga K d)) none D σ H) : wMany K Wo D ((.ref (ga K c), ts) :: r) (.ref (ga K d)) none σ H :=
  ⟨true, by rw [((T.err hd).2.2 c hc).2, hu], (fun _ => h), (fun z => by cases z)⟩
theorem Told.missedU (T : Told fa fn xl K mg) {d c : Str} {ts : Addr → Value → Option Addr → TS} {r : List (Value × (Addr → Value → Option Addr → TS))} {Wo : WX} {D : Ends} {σ : L2.St} {H : Hp} (hd : d ∈ xl.ex) (hc : c ∈ xl.ex) (hu : under d c = false)
    (h : wMany K Wo D r (.ref (ga K d)) none σ H) : wMany K Wo D ((.ref (ga K c), ts) :: r) (.ref (ga K d)) none σ H :=
  ⟨false, by rw [((T.err hd).2.2 c hc).2, hu], (fun z => by cases z), (fun _ => h)⟩
end
end G
namespace G
open PySem PySem.Spec PySem.Calls PyProof.Rows L2 He
/-! ### for k in d -/
def LockW (t : TS) (D : Ends) (σ : L2.St) (H : Hp) : Prop := tLock t D σ H
section
variable {t : TS} {D : Ends} {σ : L2.St} {H : Hp} {d : Addr} {kvs : List (Key × V)} {td : TE} {R : It → Hp → Prop} {o : Obj} {g : TG} {tb : TS}
theorem x_lock : tLock t D σ H = LockW t D σ H := rfl
theorem lockD (hd : H d = some (.dK kvs)) (h : ∀ od, t ⟨fun σ' H' => H' d = some (.frz od (.dK kvs)) ∧ D.nx σ' (upd H' d (.dK kvs)), fun v H' => H' d = some (.frz od (.dK kvs)) ∧ D.rt v (upd H' d (.dK kvs)), fun σ' H' => H' d = some (.frz od (.dK kvs)) ∧ D.bk σ' (upd H' d (.dK kvs)), fun σ' H' => H' d = some (.frz od (.dK kvs)) ∧ D.ct σ' (upd H' d (.dK kvs))⟩ σ (upd H d (.frz od (.dK kvs)))) : LockW t D σ H := ⟨d, _, hd, trivial, h⟩
theorem x_keys : iKeys td σ H R = td σ H fun x H1 => ∃ d o, x = .ref d ∧ ((∃ kvs, H1 d = some (.frz o (.dK kvs)) ∧ R (Itk d o kvs) H1) ∨ ∃ kvs, H1 d = some (.frz o (.dT kvs)) ∧ R (Itkt d o kvs) H1) := rfl
theorem forW_keys (Pv : Nat → L2.St → Hp → Prop) (h0 : Pv 0 σ H) (hG : ∀ i σ H, i ≤ kvs.length → Pv i σ H → H d = some (.frz o (.dK kvs)))
    (hs : ∀ i k v σ H, kvs[i]? = some (k, v) → Pv i σ H → g (kV k) σ H fun σ2 H2 => tb { D with nx := Pv (i + 1), ct := Pv (i + 1), bk := D.nx } σ2 H2) (hd : ∀ σ H, Pv kvs.length σ H → D.nx σ H) : ForW (Itk d o kvs) g tb D σ H :=
  for_it walk_keys Pv h0 hG (fun i x σ H H' hi p y => by
    obtain ⟨rfl, k, v, e, rfl⟩ := y
    exact hs i k v σ _ e p) hd
theorem dget_f {i : Int} (h : H d = some (.frz o (.dK kvs))) : DGet H d (.int i) (valV kvs (.inl i : Key)) := .inl ⟨kvs, .inl i, .inr ⟨o, h⟩, rfl, rfl⟩
end
end G
namespace G
open PySem PySem.Spec PySem.Calls PyProof.Rows L2 He
/-! ### == of dicts, dict(d), xs.pop(i) -/
section
variable {X : Cx} {σ : L2.St} {H : Hp} {Q : VK}
def gEqDD : R2 := fun x y H Q => ∃ a b kvs kvs', x = .ref a ∧ y = .ref b ∧ H a = some (.dK kvs) ∧ H b = some (.dK kvs') ∧ ((kvs = kvs' ∧ (kvs.map (·.1)).Nodup ∧ (∀ p ∈ kvs, flatB p.2 = true) ∧ Q (.bl true) H) ∨ (kvs.length ≠ kvs'.length ∧ Q (.bl false) H))
def gNeDD : R2 := fun x y H Q => ∃ a b kvs kvs', x = .ref a ∧ y = .ref b ∧ H a = some (.dK kvs) ∧ H b = some (.dK kvs') ∧ ((kvs = kvs' ∧ (kvs.map (·.1)).Nodup ∧ (∀ p ∈ kvs, flatB p.2 = true) ∧ Q (.bl false) H) ∨ (kvs.length ≠ kvs'.length ∧ Q (.bl true) H))
theorem op_eqDD (hu : X.A.units < cLine) : OpR X (compareOp .Eq) gEqDD := by
  intro pins s σ H x y v u Q I rx ry h
  obtain ⟨a, b, kvs, kvs', rfl, rfl, ea, eb, h⟩ := h
  obtain rfl : v = Value.ref a := rx
  obtain rfl : u = Value.ref b := ry
  obtain ⟨_, ya, va, ra, da⟩ := (show ObjOk X.prog X.w H s.heap a (.dK kvs) from I.hok a _ ea)
  obtain ⟨_, yb, vb, rb, db⟩ := (show ObjOk X.prog X.w H s.heap b (.dK kvs') from I.hok b _ eb)
  rcases h with ⟨rfl, nd, fl, q⟩ | ⟨ne, q⟩
  · have hl : va.length = vb.length := ra.length.symm.trans rb.length
    exact PySem.W.keq_eq (knd := mixKind X.prog X.w) (r := true) ya yb da db hu (fun _ => hits_all rb ra fun p hp => ⟨val_nodup nd p hp, fl p hp⟩) (fin_bl I q (by simp [hl]))
  · have hl : va.length ≠ vb.length := fun z => ne (ra.length.trans (z.trans rb.length.symm))
    exact PySem.W.keq_eq (knd := mixKind X.prog X.w) (r := true) ya yb da db hu (fun z => absurd z hl) (fin_bl I q (by simp [hl]))
theorem op_neDD (hu : X.A.units < cLine) : OpR X (compareOp .NotEq) gNeDD := by
  intro pins s σ H x y v u Q I rx ry h
  obtain ⟨a, b, kvs, kvs', rfl, rfl, ea, eb, h⟩ := h
  obtain rfl : v = Value.ref a := rx
  obtain rfl : u = Value.ref b := ry
  obtain ⟨_, ya, va, ra, da⟩ := (show ObjOk X.prog X.w H s.heap a (.dK kvs) from I.hok a _ ea)
  obtain ⟨_, yb, vb, rb, db⟩ := (show ObjOk X.prog X.w H s.heap b (.dK kvs') from I.hok b _ eb)
  rcases h with ⟨rfl, nd, fl, q⟩ | ⟨ne, q⟩
  · have hl : va.length = vb.length := ra.length.symm.trans rb.length
    exact PySem.W.keq_ne (knd := mixKind X.prog X.w) (r := true) ya yb da db hu (fun _ => hits_all rb ra fun p hp => ⟨val_nodup nd p hp, fl p hp⟩) (fin_bl I q (by simp [hl]))
  · have hl : va.length ≠ vb.length := fun z => ne (ra.length.trans (z.trans rb.length.symm))
    exact PySem.W.keq_ne (knd := mixKind X.prog X.w) (r := true) ya yb da db hu (fun z => absurd z hl) (fin_bl I q (by simp [hl]))
theorem r_eqDD {a b : Addr} {kvs : List (Key × V)} (h1 : H a = some (.dK kvs)) (h2 : H b = some (.dK kvs)) (nd : (kvs.map (·.1)).Nodup) (fl : ∀ p ∈ kvs, flatB p.2 = true) (q : Q (.bl true) H) : gEqDD (.ref a) (.ref b) H Q := ⟨a, b, kvs, kvs, rfl, rfl, h1, h2, .inl ⟨rfl, nd, fl, q⟩⟩
theorem r_neDD {a b : Addr} {kvs : List (Key × V)} (h1 : H a = some (.dK kvs)) (h2 : H b = some (.dK kvs)) (nd : (kvs.map (·.1)).Nodup) (fl : ∀ p ∈ kvs, flatB p.2 = true) (q : Q (.bl false) H) : gNeDD (.ref a) (.ref b) H Q := ⟨a, b, kvs, kvs, rfl, rfl, h1, h2, .inl ⟨rfl, nd, fl, q⟩⟩
theorem r_eqDL {a b : Addr} {kvs kvs' : List (Key × V)} (h1 : H a = some (.dK kvs)) (h2 : H b = some (.dK kvs')) (ne : kvs.length ≠ kvs'.length) (q : Q (.bl false) H) : gEqDD (.ref a) (.ref b) H Q := ⟨a, b, kvs, kvs', rfl, rfl, h1, h2, .inr ⟨ne, q⟩⟩
def rDictD : List V → Hp → VK → Prop := fun xs H Q => ∃ (a : Addr) (kvs : List (Key × V)), xs = [.ref a] ∧ Rd H a (.dK kvs) ∧ ∀ p, H p = none → Q (.ref p) (upd H p (.dK kvs))
theorem call_dictDK : CallR X (.type "dict") rDictD := call_dictD
theorem r_isiD {a : Addr} {kvs : List (Key × V)} (h : H a = some (.dK kvs)) (q : Q (.bl true) H) : gIsi [.ref a, .ty "dict"] H Q := r_isi (t := "dict") (by show tyO (H a) = _; rw [h]; rfl) q
def rLenDD : List V → Hp → VK → Prop := fun xs H Q => ∃ a kvs, xs = [V.ref a] ∧ H a = some (.dK kvs) ∧ Q (.int kvs.length) H
theorem call_lenDD : CallR X (.builtin "len") rLenDD := call_lenD
theorem r_lenDD {a : Addr} {kvs : List (Key × V)} (h : H a = some (.dK kvs)) (q : Q (.int (kvs.length : Int)) H) : rLenDD [.ref a] H Q := ⟨_, _, rfl, h, q⟩
theorem r_popAt {a : Addr} {xs : List V} {i : Nat} {y : V} (h : H a = some (.lst xs)) (hi : xs[i]? = some y) (hs : xs.length ≤ sizeLine) (q : Q y (upd H a (.lst (xs.eraseIdx i)))) : rPopAt (.ref a) [.int (i : Int)] H Q := by
  have hl := (List.getElem?_eq_some_iff.mp hi).1
  have sz := sizeLine_eq
  refine ⟨a, xs, _, i, y, rfl, rfl, h, by omega, by omega, ?_, hi, q⟩
  unfold seqIndex?
  simp only [if_neg (show ¬ ((i : Int) < 0) by omega)]
  rw [if_pos (by rw [Bool.and_eq_true, decide_eq_true_eq, decide_eq_true_eq]; omega), Int.toNat_natCast]
theorem cutV_one {xs : List V} : cutV xs (some 1) none = xs.drop 1 := by
  have e : HT.sIx xs.length 0 (some 1) = min 1 xs.length := HT.sIx_nat _ _ 1
  unfold cutV
  rw [e, HT.sIx_none]
  cases xs with
  | nil => rfl
  | cons x r =>
    have e : min 1 (x :: r).length = 1 := by rw [List.length_cons]; omega
    rw [e]
    show (r.take (r.length + 1 - 1)) = r
    rw [Nat.add_sub_cancel, List.take_length]
/-! ### zip -/
theorem x_zip {ta : TA} {R : It → Hp → Prop} {K : PySem.W.Frag} : iZip K ta σ H R = ta σ H fun vs H1 => ∃ a b xs ys, vs = [.ref a, .ref b] ∧ SqL K H1 a xs ∧ SqL K H1 b ys ∧ R (Itz K a b) H1 := rfl
theorem forW_zip {K : PySem.W.Frag} {g : TG} {tb : TS} {D : Ends} {a b : Addr} {xs ys : List V} (Pv : Nat → L2.St → Hp → Prop) (h0 : Pv 0 σ H) (hG : ∀ i σ H, i ≤ min xs.length ys.length → Pv i σ H → SqL K H a xs ∧ SqL K H b ys)
    (hs : ∀ i x y T σ H, xs[i]? = some x → ys[i]? = some y → H T = none → Pv i σ H → g (.ref T) σ (upd H T (.tup [x, y])) fun σ2 H2 => tb { D with nx := Pv (i + 1), ct := Pv (i + 1), bk := D.nx } σ2 H2) (hd : ∀ σ H, Pv (min xs.length ys.length) σ H → D.nx σ H) : ForW (Itz K a b) g tb D σ H :=
  for_it (walk_zip rfl) Pv h0 hG (fun i x σ H H' hi p y => by
    obtain ⟨T, u, v, rfl, nT, rfl, e1, e2⟩ := y
    exact hs i u v T σ H e1 e2 nT p) hd
end
end G
namespace G
open PySem PySem.Spec PySem.Calls PyProof.Rows L2 He
/-! ### a comprehension whose item may raise -/
/-- what is wanted behind a block that began in env: an error goes on in env's frame -/
def PostX (M : Model) (A : Around) (E : Value → Shared → Prop) (env : Env) (Q : Value → Shared → Prop) (acc : Value) (C : Addr) : Result → Shared → Prop
  | .ok _, t => ∃ m, t.heap.Ns C m ∧ ∀ h', Heap.SameBut C t.heap h' → Q acc { t with heap := h' }
  | .error x, t => ∃ m, t.heap.Ns C m ∧ ∀ h', Heap.SameBut C t.heap h' → ∀ ce : Env, ce.locals = C → ce.frame = env.frame → wpAny M A (PySem.passOn "comprehension.variables-let-go" x ce : Sem Value) (fun _ _ => False) E { t with heap := h' }
section
variable {M : Model} {A : Around} {E : Value → Shared → Prop} {s : Shared} {env : Env}
theorem compX {e : Expr} {scope : Scope} {pos : Pos} {new fst : Sem Value} {g : Comprehension} {gs : List Comprehension} {cl : List (Str × Addr)} {Q : Value → Shared → Prop}
    (c1 : clausesOf e = g :: gs) (c2 : ∀ x, foldedSetIterable g.iter env x = pure x) (c3 : closureFor scope env = pure cl) (c4 : scope.kind = .function) (c5 : ∀ x ∈ scope.names, x.2 = .local → scope.names.lookup x.1 = some .local)
    (c6 : wpAny M A fst (fun x s1 => wpAny M A (pyIter x) (fun it s2 => wpAny M A new (fun acc s3 => wpAny M A (newFunctionEnv scope env.globals cl [] env.qual none .none (some env)) (fun ce s4 => ce.frame = env.frame ∧
        codeAny M A (.compStart e 0 it acc { ce with scope := relabel scope env }) (PostX M A E env Q acc ce.locals) s4) E s3) E s2) E s1) E s) :
    wpAny M A (comprehension e scope env pos new false fst none) Q E s := by
  have again : ∀ {α : Type} {m : Sem α} {R R' : α → Shared → Prop} {t : Shared}, wpAny M A m R E t → (∀ a u, R a u → R' a u) → wpAny M A m R' E t := fun k f => wpAny_mono k f fun _ _ z => z
  unfold comprehension
  rw [c3, c1]
  refine wpAny_bind (again c6 fun x s1 k1 => wpAny_bind (wpAny_standAt (wpAny_bind (wpAny_of_eq (c2 x) (wpAny_bind (wpAny_holding (again k1 fun it s2 k2 => ?_)))))))
  refine wpAny_standIf (wpAny_bind (again k2 fun acc s3 k3 => wpAny_bind (wpAny_pure (wpAny_bind (again k3 fun ce s4 k4 => ?_)))))
  obtain ⟨fr, k4⟩ := k4
  dsimp only
  have see : ∀ y ∈ (scope.names.filter fun y => (y.2 == .local || y.2 == .cell) && y.1 != (".0" : Str)).reverse, y.2 = .local → Env.kindOf { ce with scope := relabel scope env } y.1 = some .local := fun y hy hl =>
    lookup_relabel_local (c5 y (List.mem_filter.mp (List.mem_reverse.mp hy)).1 hl)
  refine wpAny_holding (wpAny_bind (wpAny_attempt (wpAny_holding (wpAny_run (codeAny_mono k4 fun r t k5 => ?_)))))
  cases r with
  | ok f =>
    obtain ⟨m, n5, k6⟩ := k5
    exact wpAny_bind (wpAny_holding (wpAny_comp_letGo (cenv := { ce with scope := relabel scope env }) c4 _ t m see n5 fun h' m' _ z => wpAny_pure (k6 h' z)))
  | error x =>
    obtain ⟨m, n5, k6⟩ := k5
    exact wpAny_bind (wpAny_holding (wpAny_comp_letGo (cenv := { ce with scope := relabel scope env }) c4 _ t m see n5 fun h' m' _ z => wpAny_mono (k6 h' z _ rfl fr) (fun _ _ f => f.elim) fun _ _ y => y))
end
section
variable {M : Model} {A : Around} {E : Value → Shared → Prop} {s : Shared} {Z : Obj → Prop} {base : Heap} {env : Env} {outer : List Env} {L e : Addr}
/-- a frame is noted behind another one -/
theorem look_fromZ {fl : Value} {Q : Unit → Shared → Prop} (hZ : HandSPX.Steady Z) (fr : A.frames = some (env :: outer)) (ef : env.frame = some L) (b1 : base.StaysIn s.heap) (b2 : base.get? e = none) (b3 : s.heap.FunFrames base (env :: outer))
    (tr : HandSPX.TracedZ s.heap base e Z fl) (ne : (fl == rawInt L) = false) (hQ : ∀ h', HandSPX.HeldZ base (env :: outer) e Z L h' → s.heap.UpToSlots h' → Q () { s with heap := h' }) : wpAny M A (noteFrame (.ref e) env) Q E s := by
  obtain ⟨oe, vs, T, oT, ts, he, hz, hd, h1, hnT, hTe, hT, hdT, h3⟩ := tr
  unfold noteFrame
  simp only [ef]
  refine wpAny_bind (wpAny_field he hd h1 ?_)
  rw [if_pos (by simp : (Value.ref T != Value.none) = true)]
  refine wpAny_bind (wpAny_field hT hdT h3 ?_)
  rw [if_neg (by rw [ne]; exact Bool.false_ne_true : ¬ ((fl == rawInt L) = true))]
  refine wpAny_bind (wpAny_setField hT hdT (Array.getElem?_eq_some_iff.mp h3).1 ?_)
  have off : ∀ b, b ≠ T → (s.heap.update T (Obj.mapFields (·.setIfInBounds 3 Value.none))).get? b = s.heap.get? b := fun b n => Heap.get?_update_other _ _ n.symm
  have plain : ∀ b o, s.heap.get? b = some o → (∀ v, o.data ≠ .fields v) → b ≠ T := fun b o g n q => by
    rw [q, hT] at g
    cases g
    exact n ts hdT
  refine HandSPX.wpAny_entryZ hZ fr (b3.of_keeps fun b o g n => ⟨o, (off b (plain b o g n)).trans g, rfl⟩) ef ((off e hTe.symm).trans he)
    (fun b o g => (off b fun q => by rw [q, hnT] at g; cases g).trans (b1 b o g)) b2 hd (Array.getElem?_eq_some_iff.mp h1).1 hz fun h' nt => ?_
  obtain ⟨x1, x2, x3, x4⟩ := nt
  exact hQ h' ⟨x1, b2, x2, x3⟩ fun b o g n => x4 b o ((off b (plain b o g n)).trans g) n
theorem funFrames_off {base base' h h' : Heap} {C : Addr} (k : ∀ b o, b ≠ C → h.get? b = some o → h'.get? b = some o) (kb : ∀ b, base.get? b = none → base'.get? b = none) : ∀ {l : List Env}, h.FunFrames base l → C ∉ frs l → h'.FunFrames base' l
  | [], _, _ => trivial
  | env :: l, ff, nC => by
    obtain ⟨hk, ⟨L, o, hf, hb, ho, hd⟩, hr⟩ := ff
    have nL : L ≠ C := fun z => nC (List.mem_filterMap.mpr ⟨env, List.mem_cons_self, by rw [hf, z]⟩)
    exact ⟨hk, ⟨L, o, hf, kb L hb, k L o nL ho, hd⟩, funFrames_off k kb hr fun m => by
      obtain ⟨e, he, q⟩ := List.mem_filterMap.mp m
      exact nC (List.mem_filterMap.mpr ⟨e, List.mem_cons_of_mem _ he, q⟩)⟩
end
/-- the context of a block that may raise -/
abbrev blkX (X : Cx) (s : Shared) (H : Hp) (scope : Scope) (ce : Env) (fp : List Addr) (xe : Value → Shared → Prop) : Cx := { X.blk s H scope ce fp with xe := xe }
theorem blkX_inv {X : Cx} {s : Shared} {H : Hp} {scope : Scope} {ce : Env} {fp : List Addr} {xe : Value → Shared → Prop} {pins : List (Addr × Obj)} {σ : L2.St} {H' : Hp} {t : Shared} (I : Inv (X.blk s H scope ce fp) pins σ H' t) : Inv (blkX X s H scope ce fp xe) pins σ H' t :=
  ⟨⟨I.ok.mod, I.ok.kind, I.ok.glob, I.ok.blt, I.ok.above, I.ok.inj, I.ok.has, I.ok.cab, I.ok.hd, I.ok.frames, I.ok.stk, I.ok.exf, I.ok.bs, I.ok.bsz, I.ok.noex, I.ok.exfs, I.ok.funs, I.ok.frf⟩, I.os, I.bare, I.base, I.loc, I.cell, I.free, I.freeC, I.pin, I.hok, I.len⟩
/-- an error leaves a block -/
theorem blk_err {X : Cx} {pins0 : List (Addr × Obj)} {σ : L2.St} {H3 : Hp} {s3 : Shared} {scope : Scope} {ce : Env} {fp : List Addr} {xe : Value → Shared → Prop} {Eo : XK} {Q : Value → Shared → Prop} {acc u : Value} {t : Shared} {E1 : Value → Shared → Prop}
    (hs : X.stack = X.env :: X.outer) (hf : X.env.frame = some X.env.locals) (I3 : Inv X pins0 σ H3 s3) (f3 : ∀ b ∈ fp, FpOk X pins0 H3 b) (cL : ce.locals = s3.heap.objs.size) (cf : ce.frame = X.env.frame)
    (tk : Takes X fun c d _ H => Eo c d H) (x : XE (blkX X s3 H3 scope ce fp xe) (fun c d _ H => Eo c d H) u t) :
    wpAny (model X.prog X.w) X.A (noteFrame u ce) (fun _ t' => PostX (model X.prog X.w) X.A X.xe X.env Q acc s3.heap.objs.size (.error u) t') E1 t := by
  obtain ⟨a, B, sI, pins, σ', H', cls, d, rfl, I, nb, up, sky, na, os, ag, w⟩ := x
  have fr : X.A.frames = some (X.env :: X.outer) := by rw [I3.ok.frames, hs]
  have J : Inv X pins0 σ H' sI := I3.call' (ch := fp) I.os I.base I.hok I.bare fun b hb => ⟨(f3 b hb).2.2.2.1, (f3 b hb).2.1, (f3 b hb).2.2.2.2.1, (f3 b hb).2.2.2.2.2⟩
  have free : H' ce.locals = none := I.free
  obtain ⟨m, ns, -⟩ := I.loc
  have ns : sI.heap.Ns ce.locals m := ns
  rw [cL] at free ns
  generalize hC : s3.heap.objs.size = C at free ns cL ⊢
  have fC : FpOk X pins0 H' C := I3.fpOk (Nat.le_of_eq hC) free
  have Cst : C ∉ frs X.stack := by
    rw [hs]
    intro z
    obtain ⟨v, hv, q⟩ := List.mem_filterMap.mp z
    rcases List.mem_cons.mp hv with rfl | hv
    · rw [hf] at q
      exact fC.2.1 (Option.some.inj q).symm
    · exact fC.2.2.1 (List.mem_filterMap.mpr ⟨v, hv, q⟩)
  obtain ⟨oC, es, ep, gC, rC⟩ := ns
  have bC : B.get? C = some oC := nb C oC gC Cst
  have en : (noteFrame (.ref a) ce : Sem Unit) = noteFrame (.ref a) X.env := by
    unfold noteFrame PySem.frameOf
    rw [cf]
  rw [en]
  have go : ∀ h1, HandSPX.HeldZ B (X.env :: X.outer) a (Zc cls d) X.env.locals h1 → t.heap.UpToSlots h1 → PostX (model X.prog X.w) X.A X.xe X.env Q acc C (.error (.ref a)) { t with heap := h1 } := fun h1 hh up1 => by
    obtain ⟨b1, b2, b3, oe, vs, T, oT, ts, he, hz, hd, h1', hnT, hTe, hT, hdT, h3⟩ := hh
    refine ⟨m, ⟨oC, es, ep, b1 _ _ bC, rC⟩, fun h' sb ce' e1 e2 => ?_⟩
    have aC : a ≠ C := fun z => by rw [z, bC] at b2; cases b2
    have TC : T ≠ C := fun z => by rw [z, bC] at hnT; cases hnT
    have off : ∀ b o, b ≠ C → h1.get? b = some o → h'.get? b = some o := fun b o n g => (sb.2 b n).trans g
    have hid : ∀ b, B.get? b = none → (PySem.W.hideAll B [C]).get? b = none := fun b g => by
      cases q : (PySem.W.hideAll B [C]).get? b with
      | none => rfl
      | some o => rw [PySem.W.of_hideAll _ q] at g; cases g
    have hidC : ∀ {h : Heap} {b o}, (PySem.W.hideAll h [C]).get? b = some o → b ≠ C := fun {h b o} g z => by
      rw [z, PySem.W.hideAll_none [C] (List.mem_singleton_self C)] at g
      cases g
    unfold PySem.passOn
    refine wpAny_bind (wpAny_field (off a oe aC he) hd h1' ?_)
    rw [if_neg (by simp : ¬ ((Value.ref T == Value.none) = true))]
    have fin : wpAny (model X.prog X.w) X.A (setFlight (.ref a) ce'.frame) (fun _ u4 => wpAny (model X.prog X.w) X.A (throw (.ref a) : Sem Value) (fun _ _ => False) X.xe u4) X.xe { t with heap := h' } := by
      rw [e2, hf]
      refine HandSPX.setFlight_anyZ (base := PySem.W.hideAll B [C]) (l := X.env :: X.outer) (Z := Zc cls d) (fl := rawInt X.env.locals) (fun b o g => off b o (hidC g) (b1 b o (PySem.W.of_hideAll _ g))) (funFrames_off off hid b3 (by rw [← hs]; exact Cst))
        ⟨oe, vs, T, oT, ts, off a oe aC he, hz, hd, h1', hid T hnT, hTe, off T oT TC hT, hdT, h3⟩ fun h4 k1 k2 k3 k4 => wpAny_throw (tk _ _ ?_)
      have J' : Inv X pins0 σ H' { sI with heap := PySem.W.hideAll sI.heap [C], toks := sI.toks } := J.turned (it := C) (fun b o n g => PySem.W.hideAll_get [C] g (fun z => n (List.mem_singleton.mp z))) free fC.2.1 fC.2.2.2.1 fC.2.2.2.2.1 fC.2.2.2.2.2
      refine ⟨a, PySem.W.hideAll B [C], _, pins0, σ, H', cls, d, rfl, J', fun b o g n => ?_, fun b o g nf => ?_, .inr (.inr (by rw [hs]; exact ⟨k1, hid a b2, k2, k3⟩)), na, os, ag, w⟩
      · exact PySem.W.hideAll_get [C] (nb b o (PySem.W.of_hideAll _ g) n) fun z => hidC g (List.mem_singleton.mp z)
      · have bn := hidC g
        obtain ⟨l1, g1⟩ := up b o (PySem.W.of_hideAll _ g) nf
        obtain ⟨l2, g2⟩ := up1 b _ g1 nf
        obtain ⟨l4, g4⟩ := k4 b _ (off b _ bn g2) nf
        exact ⟨l4, g4⟩
    first
      | exact wpAny_bind (wpAny_pure (wpAny_bind fin))
      | exact wpAny_bind fin
  rw [hs] at sky
  rcases sky with ⟨hB, hn, hl, oe, vs, he, hz, hd, h1⟩ | fl | hh
  · exact HandSPX.look_newZ Zc.steady fr hl hf he hB hn hd h1 hz go
  · exact HandSPX.looks_onZ Zc.steady fr hf fl go
  · obtain ⟨b1, b2, b3, b4⟩ := hh
    refine look_fromZ Zc.steady fr hf b1 b2 b3 b4 ?_ go
    have ne : ce.locals ≠ X.env.locals := by rw [cL]; exact fC.2.1
    simp [rawInt]
    exact fun z => ne (Int.ofNat.inj z)
/-- [elt for tg in iter if ..], of which elt may raise -/
theorem pe_lcX {X : Cx} {elt tg iter : Expr} {ifs : List Expr} {scope : Scope} {own : List (Str × Nat)} {pos : Pos} {wi : TI} {g : TG} {tt : TT} {te : XK → TE} {Eo : XK} (tk : Takes X fun c d _ H => Eo c d H) (es : X.stack = X.env :: X.outer) (ef : X.env.frame = some X.env.locals) (hc : X.calm = true)
    (hN : X.N.Nodup) (hi : PI X tg iter wi) (ok : BlkOk X.N X.env.scope scope own) (hg : ∀ (s : Shared) (H : Hp) (C : Addr) (cl : List (Str × Addr)) (fp : List Addr) (xe : Value → Shared → Prop), PG (blkX X s H scope (compEnvC scope cl C X.env) fp xe) tg g)
    (ht : ∀ (s : Shared) (H : Hp) (C : Addr) (cl : List (Str × Addr)) (fp : List Addr) (xe : Value → Shared → Prop), PTs (blkX X s H scope (compEnvC scope cl C X.env) fp xe) ifs tt)
    (he : ∀ (s : Shared) (H : Hp) (C : Addr) (cl : List (Str × Addr)) (fp : List Addr) (xe : Value → Shared → Prop) (E : XK), Takes (blkX X s H scope (compEnvC scope cl C X.env) fp xe) (fun c d _ H => E c d H) → PE (blkX X s H scope (compEnvC scope cl C X.env) fp xe) elt (te E))
    (hset : ∀ x, foldedSetIterable iter X.env x = pure x := by intro _; rfl) : PE X (.ListComp elt [⟨tg, iter, ifs, 0⟩] scope pos) (tLc wi g tt (te Eo) (own.map (·.2))) := by
  refine ⟨fun pins s σ H Q I h => ?_⟩
  rw [eval_ListComp]
  have clo : ∀ y ∈ scope.names, y.2 = .free → ∃ c, X.env.cells.lookup y.1 = some c := fun y hy e => (ok.free y hy e).elim (fun k => I.ok.has _ (.inl k)) fun k => I.ok.has _ (.inr k)
  refine compX rfl hset (closure_ok clo) ok.kind (fun y hy z => by rw [ok.uniq y hy, z]) (thn (hi.run pins s σ H _ I h) fun xv t1 hx => thn hx fun itv t2 h2 => ?_)
  obtain ⟨it, fp, tn, J, H2, e, I2, T, st2, f2, q⟩ := h2
  subst e
  refine wpAny_newObj_type (newEnv_comp ⟨rfl, ?_⟩) (by show 0 ≤ sizeLine; decide)
  generalize eD : t2.heap.objs.size = D
  obtain ⟨W, ⟨m0, w0⟩, turn⟩ := q D (I2.hok.fresh (Nat.le_of_eq eD))
  generalize e3 : ({ t2 with heap := t2.heap.push { cls := .type "list", data := .seq ([] : List Value).toArray } } : Shared) = t3
  have g3 : t3.heap = t2.heap.push { cls := .type "list", data := .seq ([] : List Value).toArray } := by rw [← e3]
  have I3 : Inv X pins σ (upd H2 D (.lst [])) t3 := by
    rw [← e3]
    refine I2.laid (t' := t2.toks) (fun b o g => Heap.get?_push_of_some _ g) (Nat.le_of_eq eD) ⟨Nat.zero_le _, [], 0, .nil, ?_⟩
    rw [← eD]
    exact Heap.get?_push_size _ rfl
  have lt2 : ∀ b ∈ fp, b < t2.heap.objs.size := fun b hb => let ⟨o, e, _⟩ := T.obj _ _ st2 b hb; Heap.lt_size e
  have f3 : ∀ b ∈ fp, FpOk X pins (upd H2 D (.lst [])) b ∧ b < t3.heap.objs.size := fun b hb => by
    have hl := lt2 b hb
    refine ⟨⟨?_, (f2 b hb).2⟩, by rw [g3, Heap.size_push]; exact Nat.lt_succ_of_lt hl⟩
    rw [upd_ne (by rw [← eD]; exact Nat.ne_of_lt hl)]
    exact (f2 b hb).1
  have st3 : tn 0 t3.heap := T.keep _ _ _ st2 fun b _ o g => by rw [g3]; exact Heap.get?_push_of_some _ g
  have I4 := block_start I3 ok hN f3
  have pg := hg t3 (upd H2 D (.lst [])) t3.heap.objs.size (cellsFrom (t3.heap.objs.size + 1) scope.names (cloFrom X.env.cells scope.names [])) fp
  have pt := ht t3 (upd H2 D (.lst [])) t3.heap.objs.size (cellsFrom (t3.heap.objs.size + 1) scope.names (cloFrom X.env.cells scope.names [])) fp
  have pe := he t3 (upd H2 D (.lst [])) t3.heap.objs.size (cellsFrom (t3.heap.objs.size + 1) scope.names (cloFrom X.env.cells scope.names [])) fp
  show codeAny _ _ (.compStart (.ListComp elt [⟨tg, iter, ifs, 0⟩] scope pos) 0 (.ref it) (.ref D) (compEnvC scope (cellsFrom (t3.heap.objs.size + 1) scope.names (cloFrom X.env.cells scope.names [])) t3.heap.objs.size X.env)) (PostX (model X.prog X.w) X.A X.xe X.env (EP X pins σ Q) (.ref D) t3.heap.objs.size) { t3 with heap := pushCells (t3.heap.push { cls := .type "dict", data := .dict #[] }) scope.names }
  have nfp : ∀ b ∈ fp, (upd H2 D (.lst [])) b = none := fun b hb => (f3 b hb).1.1
  generalize ece : compEnvC scope (cellsFrom (t3.heap.objs.size + 1) scope.names (cloFrom X.env.cells scope.names [])) t3.heap.objs.size X.env = ce at I4 pg pt pe ⊢
  have cL : ce.locals = t3.heap.objs.size := by subst ece; rfl
  have cf : ce.frame = X.env.frame := by subst ece; rfl
  generalize eH3 : upd H2 D (.lst []) = H3 at I3 I4 pg pt pe w0 nfp f3
  generalize e4 : ({ t3 with heap := pushCells (t3.heap.push { cls := .type "dict", data := .dict #[] }) scope.names } : Shared) = t4 at I4 ⊢
  have st4 : tn 0 t4.heap := T.keep _ _ _ st3 fun b _ o g => by rw [← e4]; exact pushCells_keeps _ _ _ _ (Heap.get?_push_of_some _ g)
  let R := PostX (model X.prog X.w) X.A X.xe X.env (EP X pins σ Q) (.ref D) t3.heap.objs.size
  let xe := notedBy (model X.prog X.w) X.A ce fun e t' => R (.error e) t'
  have tkb : Takes (blkX X t3 H3 scope ce fp xe) (fun c d _ H => Eo c d H) := fun u t x => blk_err (pins0 := pins) (xe := xe) es ef I3 (fun b hb => (f3 b hb).1) cL cf tk x
  have pg := pg xe
  have pt := pt xe
  have pe := pe xe Eo tkb
  have I4 : Inv (blkX X t3 H3 scope ce fp xe) [] (wipe σ (own.map (·.2))) H3 t4 := blkX_inv I4
  have stat : ∀ {σ' : L2.St} {H' : Hp} {t' : Shared}, Inv (blkX X t3 H3 scope ce fp xe) [] σ' H' t' → (∀ b ∈ fp, H' b = none) → ∀ b ∈ fp, FpOk (blkX X t3 H3 scope ce fp xe) [] H' b := fun {σ' H' t'} I' hn b hb =>
    ⟨hn b hb, (I'.ok.exf b hb).1, I'.ok.exfs b hb, .inl hb, fun x c e => (I'.ok.exf b hb).2 x c e, fun p hp => absurd (show p ∈ ([] : List (Addr × Obj)) ++ [] from hp) (by simp)⟩
  have loop : codeAny (model X.prog X.w) X.A (.compLoop (.ListComp elt [⟨tg, iter, ifs, 0⟩] scope pos) 0 (.ref it) (.ref D) ce) R t4 := by
    refine compLoop_any (fun n t' => ∃ i H', Inv (blkX X t3 H3 scope ce fp xe) [] (wipe σ (own.map (·.2))) H' t' ∧ tn i t'.heap ∧ (∀ b ∈ fp, H' b = none) ∧ W i n H') ?_ m0 ⟨0, H3, I4, st4, nfp, w0⟩
    rintro n t5 ⟨i, H5, I5, st5, n5, w5⟩
    rcases turn i n H5 w5 with ⟨stop, qq⟩ | ⟨go, Nx, hNx, step⟩
    · have td := T.done (blkX X t3 H3 scope ce fp xe) rfl rfl rfl hc i [] t5 _ H5 (fun _ _ => False) I5 (stat I5 n5) st5 stop
      refine thnF td fun r t6 ⟨hr, I6⟩ => ?_
      subst hr
      have I7 : Inv X pins σ H5 t6 := I3.call' (ch := fp) I6.os I6.base I6.hok I6.bare fun b hb => ⟨(f3 b hb).1.2.2.2.1, (f3 b hb).1.2.1, (f3 b hb).1.2.2.2.2.1, (f3 b hb).1.2.2.2.2.2⟩
      have nC : H5 t3.heap.objs.size = none := cL ▸ (show H5 ce.locals = none from I6.free)
      obtain ⟨m, hn, -⟩ := I6.loc
      have hn : t6.heap.Ns ce.locals m := hn
      rw [cL] at hn
      obtain ⟨a0, a1, a2, a3, a4, a5⟩ := I3.fpOk (Nat.le_refl _) nC
      exact ⟨m, hn, fun h' sb => ⟨.ref D, H5, I7.turned (t' := t6.toks) (fun b o n g => (sb.2 b n).trans g) a0 a1 a3 a4 a5, rfl, qq⟩⟩
    · have ti := T.item (blkX X t3 H3 scope ce fp xe) rfl rfl rfl hc i [] t5 _ H5 (fun _ _ => False) I5 (stat I5 n5) st5 go
      refine thnF ti fun r t6 ⟨u, hr, h6⟩ => ?_
      subst hr
      refine thnF h6 fun _ t7 ⟨x, H7, I7, r7, y7, st7, n7⟩ => ?_
      refine thn (pg.run _ t7 _ H7 x u _ (I7.pinned (stat I7 n7) (T.obj _ _ st7)) r7 (step x H7 y7)) fun _ t8 ⟨σ8, H8, I8, hw8, q8⟩ => ?_
      refine thn (pt.run _ t8 σ8 H8 _ I8 q8) fun b t9 ⟨H9, I9, q9⟩ => ?_
      have fin : ∀ {t' : Shared} {H' : Hp}, Inv (blkX X t3 H3 scope ce fp xe) ([] ++ pinsAt fp t7.heap) σ8 H' t' → Nx H' → ∃ m, m < n ∧ ∃ i H', Inv (blkX X t3 H3 scope ce fp xe) [] (wipe σ (own.map (·.2))) H' t' ∧ tn i t'.heap ∧ (∀ b ∈ fp, H' b = none) ∧ W i m H' := fun {t' H'} I' nx => by
        obtain ⟨m', hm, w'⟩ := hNx H' nx
        have pn : ∀ b ∈ fp, ∀ o, t7.heap.get? b = some o → t'.heap.get? b = some o ∧ H' b = none := fun b hb o g =>
          let z := I'.pin (b, o) (List.mem_append_right _ (List.mem_append_right _ (mem_pinsAt hb g))); ⟨z.1, z.2.1⟩
        have el : (wipe σ (own.map (·.2))).length = σ8.length := by rw [← hw8, wipe_length]
        refine ⟨m', hm, i + 1, H', (I'.unpinned (pins := [])).weak el (fun j v g => ?_), T.keep _ _ _ st7 fun b hb o g => (pn b hb o g).1, fun b hb => ?_, w'⟩
        · rw [← hw8] at g
          exact (wipe_some g).1
        · obtain ⟨o, g, _⟩ := T.obj _ _ st7 b hb
          exact (pn b hb o g).2
      cases b with
      | false =>
        simp only [Bool.false_eq_true, if_false] at q9 ⊢
        exact fin I9 q9
      | true =>
        simp only [if_true] at q9 ⊢
        refine thn (pe.run _ t9 σ8 H9 _ I9 q9) fun z t10 ⟨yv, H10, I10, r10, acc, hD10, hz10, nx⟩ => ?_
        exact app_ok (X := blkX X t3 H3 scope ce fp xe) I10 hD10 hz10 r10 fun t11 I11 => fin I11 nx
  exact codeAny_compStart_list loop (T.self X.A 0 _ _ _ st4 loop)
end G
namespace G
open PySem PySem.Spec PySem.Calls PyProof.Rows L2 He
/-! ### texts -/
/-- a text by its signs -/
abbrev Sg (l : List Nat) : Str := ⟨l.toArray⟩
theorem Sg_tl (l : List Nat) : TL.tl (Sg l) = l := rfl
theorem Sg_of (z : Str) : z = Sg (TL.tl z) := (TL.mk_tl z).symm
theorem Sg_inj {a b : List Nat} : Sg a = Sg b ↔ a = b := ⟨fun h => by have := congrArg TL.tl h; exact this, fun h => by rw [h]⟩
theorem Sg_add (a b : List Nat) : Sg a ++ Sg b = Sg (a ++ b) := TL.ext_tl (by rw [TL.tl_append])
theorem Sg_len (a : List Nat) : (Sg a).length = a.length := by rw [TL.len_tl]
theorem Sg_eq {a b : List Nat} : decide (Sg a = Sg b) = decide (a = b) := by
  by_cases h : a = b
  · rw [decide_eq_true h, decide_eq_true (Sg_inj.mpr h)]
  · rw [decide_eq_false h, decide_eq_false fun z => h (Sg_inj.mp z)]
def cutL (l : List Nat) (lo hi : Option Int) : List Nat := (l.drop (HT.sIx l.length 0 lo)).take (HT.sIx l.length l.length hi - HT.sIx l.length 0 lo)
theorem cutS_S {l : List Nat} {lo hi : Option Int} : cutS (Sg l) lo hi = Sg (cutL l lo hi) := by
  unfold cutS cutL
  rw [show (Sg l).length = l.length from Sg_len l]
theorem cutL_to {l : List Nat} {k : Nat} : cutL l none (some (k : Int)) = l.take k := by
  unfold cutL
  rw [HT.sIx_none, HT.sIx_nat, List.drop_zero, Nat.sub_zero]
  by_cases h : k ≤ l.length
  · rw [Nat.min_eq_left h]
  · rw [Nat.min_eq_right (by omega), List.take_length, List.take_of_length_le (by omega)]
theorem cutL_from {l : List Nat} {k : Nat} : cutL l (some (k : Int)) none = l.drop k := by
  unfold cutL
  rw [HT.sIx_none, HT.sIx_nat]
  by_cases h : k ≤ l.length
  · rw [Nat.min_eq_left h, List.take_of_length_le (by rw [List.length_drop]; omega)]
  · rw [Nat.min_eq_right (by omega), Nat.sub_self, List.take_zero, List.drop_eq_nil_of_le (by omega)]
theorem cutL_to1 {l : List Nat} : cutL l none (some 1) = l.take 1 := cutL_to (k := 1)
theorem cutL_from1 {l : List Nat} : cutL l (some 1) none = l.drop 1 := cutL_from (k := 1)
section
variable {X : Cx} {K : PySem.W.Frag} {σ : L2.St} {H : Hp} {Q : VK} {D : Ends} {g : TG} {tb : TS}
/-- a text so many times -/
def repL (l : List Nat) : Nat → List Nat
  | 0 => []
  | n + 1 => l ++ repL l n
theorem repL_len {l : List Nat} : ∀ {n : Nat}, (repL l n).length = n * l.length
  | 0 => by rw [Nat.zero_mul]; rfl
  | n + 1 => by
    show (l ++ repL l n).length = _
    rw [List.length_append, repL_len, Nat.succ_mul, Nat.add_comm]
theorem rep_fold : ∀ {n : Nat} {a : Array Nat} {l : List Nat}, ((List.replicate n l.toArray).foldl (· ++ ·) a).toList = a.toList ++ repL l n
  | 0, a, l => by
    rw [show repL l 0 = [] from rfl, List.append_nil]
    rfl
  | n + 1, a, l => by
    show ((List.replicate n l.toArray).foldl (· ++ ·) (a ++ l.toArray)).toList = _
    rw [rep_fold, Array.toList_append, List.append_assoc]
    rfl
def gRepS : R2
  | .str z, .int n, H, Q => 0 ≤ n ∧ n ≤ 1000 ∧ z.length ≤ 1000 ∧ Q (.str (Sg (repL (TL.tl z) n.toNat))) H
  | _, _, _, _ => False
theorem op_gRepS : OpR X (binaryOp .Mult) gRepS := by
  intro pins s σ H x y v u Q I rx ry h
  unfold gRepS at h
  split at h
  · rename_i z n
    obtain ⟨h0, h1, h2, q⟩ := h
    obtain ⟨t, rfl⟩ := rx
    obtain ⟨t', rfl⟩ := ry
    rcases Int.lt_or_le n 1 with c | c
    · obtain rfl : n = 0 := by omega
      exact PySem.P.mul_str_none (by decide) (by decide) ⟨.str Str.empty, _, I.tok _, ⟨_, rfl⟩, q⟩
    · obtain ⟨m, rfl⟩ := Int.eq_ofNat_of_zero_le h0
      refine PySem.P.mul_str (by rw [Bool.or_eq_false_iff]; exact ⟨decide_eq_false (by omega), decide_eq_false (by omega)⟩) (fun _ _ => ?_) (fun _ _ => ?_) ?_
      · have : (1000 : Int) ≤ (2 ^ 63 - 1) / (m : Int) := (Int.le_ediv_iff_mul_le (by omega)).mpr (by omega)
        omega
      · rw [Int.toNat_natCast]
        have : z.length * m ≤ 1000 * 1000 := Nat.mul_le_mul h2 (by omega)
        have sz : sizeLine = 16777216 := sizeLine_eq
        exact decide_eq_false (by omega)
      · rw [if_neg (by omega)]
        have e1 : (⟨(List.replicate m z.cps).foldl (· ++ ·) #[]⟩ : Str) = Sg (repL (TL.tl z) m) := TL.ext_tl (by
          have := rep_fold (n := m) (a := #[]) (l := z.cps.toList)
          rw [Array.toArray_toList] at this
          exact this)
        rw [Int.toNat_natCast] at q ⊢
        split
        · rename_i c2
          have e2 : z = Sg (repL (TL.tl z) m) := by
            rw [Bool.or_eq_true] at c2
            rcases c2 with c2 | c2
            · obtain rfl : m = 1 := by
                have := of_decide_eq_true c2
                omega
              exact TL.ext_tl (by show TL.tl z = TL.tl z ++ []; rw [List.append_nil])
            · have c2 : z.length = 0 := by simpa using c2
              rw [TL.len_tl] at c2
              refine TL.ext_tl ?_
              have e : (repL (TL.tl z) m).length = 0 := by rw [repL_len, c2, Nat.mul_zero]
              rw [List.eq_nil_of_length_eq_zero c2]
              rw [List.eq_nil_of_length_eq_zero c2] at e
              exact (List.eq_nil_of_length_eq_zero e).symm
          rw [← e2] at q
          exact ⟨.str z, _, I, ⟨_, rfl⟩, q⟩
        · rw [e1]
          refine ⟨?_, .str _, _, I.tok _, ⟨_, rfl⟩, q⟩
          have sz : sizeLine = 16777216 := sizeLine_eq
          have : m * (TL.tl z).length ≤ 1000 * 1000 := Nat.mul_le_mul (by omega) (by rw [← TL.len_tl]; exact h2)
          rw [Sg_len, repL_len]
          omega
  · exact h.elim
theorem r_repS {l : List Nat} {n : Int} : gRepS (.str (Sg l)) (.int n) H Q = (0 ≤ n ∧ n ≤ 1000 ∧ (Sg l).length ≤ 1000 ∧ Q (.str (Sg (repL l n.toNat))) H) := rfl
/-- a sign in a text -/
def gInS : R2 := fun x y H Q => ∃ (c : Nat) (z : Str), x = .str ⟨#[c]⟩ ∧ y = .str z ∧ Q (.bl (decide (c ∈ z.cps.toList))) H
def gNinS : R2 := fun x y H Q => ∃ (c : Nat) (z : Str), x = .str ⟨#[c]⟩ ∧ y = .str z ∧ Q (.bl (!decide (c ∈ z.cps.toList))) H
theorem op_gInS : OpR X (compareOp .In) gInS := op_in_sign
theorem op_gNinS : OpR X (compareOp .NotIn) gNinS := op_notIn_sign
theorem r_inS {c : Nat} {z : Str} : gInS (.str ⟨#[c]⟩) (.str z) H Q = Q (.bl (decide (c ∈ TL.tl z))) H := propext ⟨fun ⟨_, _, e, e', q⟩ => by cases e; cases e'; exact q, fun q => ⟨c, z, rfl, rfl, q⟩⟩
theorem r_ninS {c : Nat} {z : Str} : gNinS (.str ⟨#[c]⟩) (.str z) H Q = Q (.bl (!decide (c ∈ TL.tl z))) H := propext ⟨fun ⟨_, _, e, e', q⟩ => by cases e; cases e'; exact q, fun q => ⟨c, z, rfl, rfl, q⟩⟩
/-- x in a written tuple of flat things -/
theorem r_inT {a : Addr} {xs : List V} {x : V} (h : H a = some (.tup xs)) (fx : flatV x = true) (fs : xs.all flatV = true) (q : Q (.bl (inV x xs)) H) : rInG K false x (.ref a) H Q := .inl ⟨a, xs, rfl, .inr (.inl (.inl h)), fx, fs, by rw [if_neg Bool.false_ne_true]; exact q⟩
theorem r_ninT {a : Addr} {xs : List V} {x : V} (h : H a = some (.tup xs)) (fx : flatV x = true) (fs : xs.all flatV = true) (q : Q (.bl (!inV x xs)) H) : rInG K true x (.ref a) H Q := .inl ⟨a, xs, rfl, .inr (.inl (.inl h)), fx, fs, by rw [if_pos (rfl : true = true)]; exact q⟩
theorem r_inL {a : Addr} {xs : List V} {x : V} (h : SqL K H a xs) (fx : flatV x = true) (fs : xs.all flatV = true) (q : Q (.bl (inV x xs)) H) : rIn K false x (.ref a) H Q := ⟨a, xs, rfl, .inl h, fx, fs, by rw [if_neg Bool.false_ne_true]; exact q⟩
theorem r_ninL {a : Addr} {xs : List V} {x : V} (h : SqL K H a xs) (fx : flatV x = true) (fs : xs.all flatV = true) (q : Q (.bl (!inV x xs)) H) : rIn K true x (.ref a) H Q := ⟨a, xs, rfl, .inl h, fx, fs, by rw [if_pos (rfl : true = true)]; exact q⟩
/-- for c in a text -/
theorem x_str {te : TE} {R : It → Hp → Prop} : iStr te σ H R = te σ H fun v H1 => ∃ x, v = .str x ∧ R (Its x) H1 := rfl
theorem x_strE {z : Str} {P : Str → Prop} : (∃ x, V.str z = V.str x ∧ P x) = P z := propext ⟨fun ⟨_, e, q⟩ => by cases e; exact q, fun q => ⟨z, rfl, q⟩⟩
theorem forW_str {l : List Nat} (Pv : Nat → L2.St → Hp → Prop) (h0 : Pv 0 σ H) (hs : ∀ (i c : Nat) σ H, l[i]? = some c → Pv i σ H → g (.str (Sg [c])) σ H fun σ2 H2 => tb { D with nx := Pv (i + 1), ct := Pv (i + 1), bk := D.nx } σ2 H2)
    (hd : ∀ σ H, Pv l.length σ H → D.nx σ H) : ForW (Its (Sg l)) g tb D σ H :=
  for_it (walk_str (z := Sg l)) Pv h0 (fun _ _ _ _ _ => trivial) (fun i x σ H H' hi p y => by
    obtain ⟨rfl, c, e, rfl⟩ := y
    exact hs i c σ _ (by simpa using e) p) (by simpa using hd)
/-! ### calls -/
def gIntS : List V → Hp → VK → Prop := fun xs H Q => ∃ a n, xs = [.str a] ∧ PySem.intText? a = some n ∧ a.length ≤ 640 ∧ Q (.int n) H
theorem call_gIntS : CallR X (.type "int") gIntS := call_int_str
def gStrI : List V → Hp → VK → Prop
  | [.int i], H, Q => i.natAbs.log2 < 1920 ∧ Q (.str (toString i)) H
  | _, _, _ => False
theorem call_gStrI : CallR X (.type "str") gStrI := by
  intro pins s σ H xs us Q I r h
  unfold gStrI at h
  split at h
  · exact call_str_int pins s σ _ _ us Q I r ⟨_, rfl, h.1, h.2⟩
  · exact h.elim
theorem r_strI {i : Int} (h : i.natAbs.log2 < 1920) (q : Q (.str (Str.ofString (toString i))) H) : gStrI [.int i] H Q := ⟨h, q⟩
def rTupG (K : PySem.W.Frag) : List V → Hp → VK → Prop := fun xs H Q => ∃ p ys, xs = [.ref p] ∧ ((SqL K H p ys ∧ ∀ l, H l = none → Q (.ref l) (upd H l (.tup ys))) ∨ (SqT K H p ys ∧ Q (.ref p) H))
theorem call_tupK (hK : X.K = K) : CallR X (.type "tuple") (rTupG K) := hK ▸ call_tuple_of
def rJoin (K : PySem.W.Frag) : V → List V → Hp → VK → Prop := fun x xs H Q => ∃ a p, ∃ ys : List Str, x = .str a ∧ xs = [.ref p] ∧ (SqL K H p (ys.map V.str) ∨ SqT K H p (ys.map V.str)) ∧ (ys.map (·.length)).sum + ys.length * a.length ≤ 16777216 ∧ Q (.str (Txt.join a ys)) H
theorem mt_joinK (hK : X.K = K) : MtR X "str.join" (rJoin K) := hK ▸ mt_join
def rSplit : V → List V → Hp → VK → Prop := fun x xs H Q => ∃ a b, x = .str a ∧ xs = [.str b] ∧ (b.length == 0) = false ∧ a.length + 2 ≤ sizeLine ∧ rNewStrs (Txt.split a b) H Q
theorem mt_splitG : MtR X "str.split" rSplit := mt_split
def rFindS : V → List V → Hp → VK → Prop := fun x xs H Q => ∃ a b, x = .str a ∧ xs = [.str b] ∧ Q (.int (Txt.find a b)) H
theorem mt_findG : MtR X "str.find" rFindS := mt_find
theorem mt_indexK (hK : X.K = K) : MtR X "list.index" (rIndex K) := hK ▸ mt_index
/-- texts by their signs -/
def SgL (ps : List (List Nat)) : List V := ps.map fun p => V.str (Sg p)
theorem r_split {l : List Nat} {c : Nat} (hc : c < 256) (hz : l.length + 2 ≤ sizeLine) (q : ∀ p, H p = none → Q (.ref p) (upd H p (.lst (SgL (TL.spl [c] 0 [] l))))) : rSplit (.str (Sg l)) [.str (Sg [c])] H Q := by
  refine ⟨_, _, rfl, rfl, rfl, by rw [Sg_len]; exact hz, fun p hp => ?_⟩
  have e := TL.split_spl (Sg l) (Sg [c]) (by simp) (TL.kind_ok (by simp [hc]))
  have e2 : (Txt.split (Sg l) (Sg [c])).map V.str = SgL (TL.spl [c] 0 [] l) := by
    have e : (Txt.split (Sg l) (Sg [c])).map TL.tl = TL.spl [c] 0 [] l := e
    rw [← e]
    unfold SgL
    rw [List.map_map]
    refine List.map_congr_left fun z _ => ?_
    show V.str z = V.str (Sg (TL.tl z))
    rw [← Sg_of]
  rw [e2]
  exact q p hp
theorem r_join {sep : List Nat} {ps : List (List Nat)} {p : Addr} (h : SqL K H p (SgL ps)) (hz : (ps.map List.length).sum + ps.length * sep.length ≤ 16777216) (q : Q (.str (Sg (TL.joinL sep ps))) H) : rJoin K (.str (Sg sep)) [.ref p] H Q := by
  refine ⟨_, p, ps.map Sg, rfl, rfl, .inl (by rw [List.map_map]; exact h), ?_, ?_⟩
  · rw [List.map_map, List.length_map, Sg_len, show ((·.length) ∘ Sg : List Nat → Nat) = List.length from funext fun l => Sg_len l]
    exact hz
  · have e : Txt.join (Sg sep) (ps.map Sg) = Sg (TL.joinL sep ps) := TL.ext_tl (by
      rw [TL.join_eq, TL.tl_join, List.map_map, show (TL.tl ∘ Sg) = (id : List Nat → List Nat) from rfl, List.map_id])
    rw [e]
    exact q
theorem r_ixStr {l : List Nat} {i c : Nat} (hz : l.length ≤ sizeLine) (e : l[i]? = some c) (q : Q (.str (Sg [c])) H) : rIx K (.str (Sg l)) (.int (i : Int)) H Q :=
  .inr (.inr ⟨_, _, c, rfl, rfl, by rw [Sg_len]; exact hz, atI_nat e, q⟩)
theorem r_lenStr {l : List Nat} : (q : l.length ≤ sizeLine ∧ Q (.int (l.length : Int)) H) → L2.rLen K [.str (Sg l)] H Q := fun q => ⟨_, _, rfl, by show (Sg l).length ≤ sizeLine ∧ _ = (Sg l).length; rw [Sg_len]; exact ⟨q.1, rfl⟩, q.2⟩
theorem r_slStr {l : List Nat} {lo hi : Option Int} (hz : l.length ≤ sizeLine) (q : Q (.str (Sg (cutL l lo hi))) H) : rSlS (.str (Sg l)) lo hi H Q := ⟨_, rfl, by rw [Sg_len]; exact hz, by rw [cutS_S]; exact q⟩
theorem r_tupL {a : Addr} {xs : List V} (h : SqL K H a xs) (q : ∀ l, H l = none → Q (.ref l) (upd H l (.tup xs))) : rTupG K [.ref a] H Q := ⟨a, xs, rfl, .inl ⟨h, q⟩⟩
end
end G
namespace G
open PySem PySem.Spec PySem.Calls PyProof.Rows L2 He
/-! ### suites of some statements -/
section
variable {X : Addr → List (Addr × Obj) → Cx} {st : Stmt} {rest a b : List Stmt} {t u : TS} {tc : TT} {c : Expr} {pos : Pos}
theorem su_nil : ∀ x y, PSs (X x y) [] tNext := fun _ _ => pss_nil
theorem su_one (h : ∀ x y, PS (X x y) st t) : ∀ x y, PSs (X x y) [st] t := fun x y => pss_one (h x y)
theorem su_cons (h1 : ∀ x y, PS (X x y) st t) (h2 : ∀ x y, PSs (X x y) rest u) : ∀ x y, PSs (X x y) (st :: rest) (tSeq t u) := fun x y => pss_cons (h1 x y) (h2 x y)
theorem su_if (h : ∀ x y, PT (X x y) c tc) (h1 : ∀ x y, PSs (X x y) a t) (h2 : ∀ x y, PSs (X x y) b u) : ∀ x y, PS (X x y) (.If c a b pos) (tIfS tc t u) := fun x y => ps_if (h x y) (h1 x y) (h2 x y)
end
theorem pe_isTK {X : Cx} {K : PySem.W.Frag} {a : Expr} {es : List Expr} {x1} {ta : TE} {tc : TA} {p tp pos : Pos} (hK : X.K = K) (hg : Gl X "isinstance") (hm : X.mg "isinstance" = none) (ha : PE X a ta) (hc : PA X es tc)
    (he : starEach [a, .Tuple es x1 tp] X.env = [(false, eval a X.env), (false, eval (.Tuple es x1 tp) X.env)] := by rfl) : PE X (.Call (.Name "isinstance" p) [a, .Tuple es x1 tp] [] pos) (tIsT K ta tc) := by
  subst hK
  exact pe_isT hg hm ha hc he
end G
namespace G
open PySem PySem.Spec PySem.Calls PyProof.Rows L2 He
/-! ### a written dict -/
section
variable {σ : L2.St} {H : Hp} {Q : VK} {K : PySem.W.Frag}
theorem x_disp {trs : List (TE × TE)} : tDisp trs σ H Q = ∀ p, H p = none → tPairs trs σ (upd H p (.dK [])) fun ps H2 => H2 p = some (.dK []) ∧ ∃ kvs : List (Key × V), ps = kvs.map (fun kv => (kV kv.1, kv.2)) ∧ kvs.length ≤ 15 ∧ Q (.ref p) (upd H2 p (.dK (mergeK [] kvs))) := rfl
theorem x_pnil {R : List (V × V) → Hp → Prop} : tPairs [] σ H R = R [] H := rfl
theorem x_pcons {tk tv : TE} {r : List (TE × TE)} {R : List (V × V) → Hp → Prop} : tPairs ((tk, tv) :: r) σ H R = tk σ H fun x H1 => tv σ H1 fun y H2 => tPairs r σ H2 fun ps H3 => R ((x, y) :: ps) H3 := rfl
theorem r_lenT {a : Addr} {xs : List V} (h : H a = some (.tup xs)) (q : Q (.int (xs.length : Int)) H) : L2.rLen K [.ref a] H Q := ⟨_, _, rfl, .inr ⟨_, .inl (.inl h), rfl⟩, q⟩
theorem call_maxK {X : Cx} {K : PySem.W.Frag} (hK : X.K = K) (hc : X.calm = true) : CallR X (.builtin "max") (rMax K) := hK ▸ cr_max hc
theorem call_minK {X : Cx} {K : PySem.W.Frag} (hK : X.K = K) (hc : X.calm = true) : CallR X (.builtin "min") (rMin K) := hK ▸ cr_min hc
end
end G
namespace Pr
open PySem PySem.Spec PyProof.Rows L2 G
local macro_rules | `(tactic| walk_at "x") => `(tactic| try simp only [↓x_var0, ↓x_varS, ↓x_c, ↓x_op, ↓x_un, ↓x_cb, ↓x_nil, ↓x_cons, ↓x_test, ↓x_b, ↓x_ex, ↓x_and, ↓x_or, ↓x_not, ↓x_andV, ↓x_orV, ↓x_notV, ↓x_tif, ↓x_chain, ↓x_menu, ↓x_menuI, ↓x_lst, ↓x_tup, ↓x_dnew, ↓x_callW, ↓x_callN, ↓x_seq, ↓x_next, ↓x_ret, ↓x_retN, ↓x_drop, ↓x_ifS, ↓x_asg, ↓x_name, ↓x_raise, ↓x_fld, ↓x_setF, ↓x_meth, ↓x_make, ↓x_sub, ↓r_min, ↓r_max, ↓x_yes, ↓x_for, ↓x_lock, ↓x_keys, ↓x_cut, ↓x_lc, ↓x_rng1, ↓x_rng2, ↓x_lst1, ↓x_itup, ↓x_rng3, ↓x_three, ↓x_lstg, ↓x_tupg, ↓x_adrS, ↓x_one, ↓x_two, ↓x_adr, ↓x_sl, ↓x_np, ↓x_pt, ↓x_int, ↓x_bm, ↓x_bm0, ↓x_consg, ↓x_nilg, ↓x_dget2, ↓x_dget1, ↓x_dget, ↓x_din, ↓x_dni, ↓x_dput, ↓x_dpop2, ↓r_isB, ↓r_notB, ↓x_enum, ↓x_zip, ↓x_str, ↓x_strE, ↓r_inS, ↓r_ninS, wipe, List.map_cons, List.map_nil, ↓x_isT, ↓r_isiII, ↓r_isiBB, ↓r_isiIB, ↓r_isiSS, ↓r_neNS, ↓r_neSN, ↓r_neNN, ↓r_eqNS, ↓r_eqSN, ↓r_eqNN, ↓r_eqIS, ↓r_neIS, ↓r_neSI, ↓r_neBS, ↓r_eqBB, ↓r_neBB, ↓x_start, ↓x_K, ↓x_start0, ↓r_i0, ↓r_i, ↓r_u, ↓r_addI, ↓r_addS, ↓r_mulI, ↓r_mulS, ↓r_eqI, ↓r_neI, ↓r_eqS, ↓r_neS, ↓r_absI, ↓r_intI, ↓r_intB, List.length_cons, List.length_nil, List.replicate, List.set_cons_zero, List.set_cons_succ, decide_eq_true_eq, Bool.not_eq_true', decide_eq_false_iff_not, if_true, if_false, Bool.false_eq_true, Bool.true_eq_false, ite_true, ite_false, Bool.not_true, Bool.not_false, c_div, n_ten, c_pow, not_true_eq_false, not_false_eq_true, decide_true, decide_false, true_and, and_true, and_self, true_or, or_true, Int.reduceLT, Int.reduceLE, Int.reduceMul, Int.reduceAdd, Int.reduceSub, Int.reducePow, Int.reduceNeg, Int.reduceDiv, Int.reduceMod, Nat.reducePow, Int.reduceToNat, Int.reduceEq, Int.reduceNe, Nat.reduceLT, Nat.reduceLeDiff, Nat.reduceAdd])

/-! ## the text by places -/
def top (i : Nat) : Stmt := PySem.Challenge.pw_cellkeep_k20_what_is_not_sound.main.body.getD i (.Pass ⟨0, 0, 0, 0⟩)
abbrev s__wall : Stmt := top 0
abbrev s_is_whole : Stmt := top 17
abbrev s_number_word : Stmt := top 18
abbrev s_place_word : Stmt := top 19
abbrev s_kind : Stmt := top 20
abbrev s_worth : Stmt := top 21
abbrev s_need_slots : Stmt := top 25
abbrev s_lay : Stmt := top 26
abbrev s_head_of : Stmt := top 27
abbrev s_slots_of : Stmt := top 28
abbrev s_age_of : Stmt := top 29
abbrev s_words_of : Stmt := top 30
abbrev s_aged : Stmt := top 31
abbrev s_slot_place : Stmt := top 32
abbrev s_children : Stmt := top 33
abbrev s_words_at : Stmt := top 35
abbrev s_walked : Stmt := top 36
abbrev s_told_places : Stmt := top 37
abbrev s_due_places : Stmt := top 38
abbrev s_faults : Stmt := top 39
abbrev s_Memory___init__ : Stmt := inClass (top 42) 0
abbrev s_Memory_need : Stmt := inClass (top 42) 1
abbrev s_Memory_read : Stmt := inClass (top 42) 2
abbrev s_Memory_write : Stmt := inClass (top 42) 3
abbrev s_Memory_need_stretch : Stmt := inClass (top 42) 4
abbrev s_Memory_copy : Stmt := inClass (top 42) 5
abbrev s_Space___init__ : Stmt := inClass (top 44) 0
abbrev s_Space_room : Stmt := inClass (top 44) 1
abbrev s_Space_used : Stmt := inClass (top 44) 2
abbrev s_Space_has : Stmt := inClass (top 44) 3
abbrev s_Space_take : Stmt := inClass (top 44) 4
abbrev s_Space_empty : Stmt := inClass (top 44) 5
abbrev s_Space_cut : Stmt := inClass (top 44) 6
abbrev s_Space_cells : Stmt := inClass (top 44) 7
abbrev s_Areas___init__ : Stmt := inClass (top 50) 0
abbrev s_Areas_flip : Stmt := inClass (top 50) 1
abbrev s_Areas_area_of : Stmt := inClass (top 50) 2
abbrev s_Areas_lay_young : Stmt := inClass (top 50) 3
abbrev s_Areas_lay_old : Stmt := inClass (top 50) 4
abbrev s_Book___init__ : Stmt := inClass (top 52) 0
abbrev s_Book_write : Stmt := inClass (top 52) 1
abbrev s_Book_rub : Stmt := inClass (top 52) 2
abbrev s_Book_has : Stmt := inClass (top 52) 3
abbrev s_Book_places : Stmt := inClass (top 52) 4
abbrev s_Book_clear : Stmt := inClass (top 52) 5
abbrev s_Hands___init__ : Stmt := inClass (top 55) 0
abbrev s_Hands_need : Stmt := inClass (top 55) 1
abbrev s_Hands_get : Stmt := inClass (top 55) 2
abbrev s_Hands_put : Stmt := inClass (top 55) 3
abbrev s_Hands_row : Stmt := inClass (top 55) 4
abbrev s_Lasts___init__ : Stmt := inClass (top 57) 0
abbrev s_Lasts_give : Stmt := inClass (top 57) 1
abbrev s_Lasts_need : Stmt := inClass (top 57) 2
abbrev s_Lasts_move : Stmt := inClass (top 57) 3
abbrev s_Lasts_say : Stmt := inClass (top 57) 4
abbrev s_Lasts_pending : Stmt := inClass (top 57) 5
abbrev s_Lasts_said : Stmt := inClass (top 57) 6
abbrev s_Weak___init__ : Stmt := inClass (top 59) 0
abbrev s_Weak_name : Stmt := inClass (top 59) 1
abbrev s_Weak_need : Stmt := inClass (top 59) 2
abbrev s_Weak_at : Stmt := inClass (top 59) 3
abbrev s_Weak_need_there : Stmt := inClass (top 59) 4
abbrev s_Weak_move : Stmt := inClass (top 59) 5
abbrev s_Weak_gone : Stmt := inClass (top 59) 6
abbrev s_Weak_names : Stmt := inClass (top 59) 7
abbrev s_Roots___init__ : Stmt := inClass (top 61) 0
abbrev s_Roots_starts : Stmt := inClass (top 61) 1
abbrev s_Heap___init__ : Stmt := inClass (top 63) 0
abbrev s_Heap_make : Stmt := inClass (top 63) 1
abbrev s_Heap_held : Stmt := inClass (top 63) 2
abbrev s_Heap_hold : Stmt := inClass (top 63) 3
abbrev s_Heap_drop : Stmt := inClass (top 63) 4
abbrev s_Heap_cell_of : Stmt := inClass (top 63) 5
abbrev s_Heap_get : Stmt := inClass (top 63) 6
abbrev s_Heap_put : Stmt := inClass (top 63) 7
abbrev s_Heap_is_young : Stmt := inClass (top 63) 8
abbrev s__law_draw : Stmt := top 65
abbrev s__law_made : Stmt := top 66
abbrev s__law_filled : Stmt := top 67
abbrev s__law_nowhere : Stmt := top 68
abbrev s__law_stray : Stmt := top 69
abbrev s__law_planted : Stmt := top 70
abbrev s_law : Stmt := top 71
def F_Memory (v0 v1 : V) : List (Str × V) := [("size", v0), ("words", v1)]
theorem pi_Memory_size {x  : V} : putF "size" x ([] : List (Str × V)) = ([("size", x)] : List (Str × V)) := rfl
theorem pf_Memory_size {x v0 v1 : V} : putF "size" x (F_Memory v0 v1) = F_Memory x v1 := rfl
theorem pi_Memory_words {x v0 : V} : putF "words" x ([("size", v0)] : List (Str × V)) = F_Memory v0 x := rfl
theorem pf_Memory_words {x v0 v1 : V} : putF "words" x (F_Memory v0 v1) = F_Memory v0 x := rfl
def F_Space (v0 v1 v2 : V) : List (Str × V) := [("begin", v0), ("end", v1), ("top", v2)]
theorem pi_Space_begin {x  : V} : putF "begin" x ([] : List (Str × V)) = ([("begin", x)] : List (Str × V)) := rfl
theorem pf_Space_begin {x v0 v1 v2 : V} : putF "begin" x (F_Space v0 v1 v2) = F_Space x v1 v2 := rfl
theorem pi_Space_end {x v0 : V} : putF "end" x ([("begin", v0)] : List (Str × V)) = ([("begin", v0), ("end", x)] : List (Str × V)) := rfl
theorem pf_Space_end {x v0 v1 v2 : V} : putF "end" x (F_Space v0 v1 v2) = F_Space v0 x v2 := rfl
theorem pi_Space_top {x v0 v1 : V} : putF "top" x ([("begin", v0), ("end", v1)] : List (Str × V)) = F_Space v0 v1 x := rfl
theorem pf_Space_top {x v0 v1 v2 : V} : putF "top" x (F_Space v0 v1 v2) = F_Space v0 v1 x := rfl
def F_Areas (v0 v1 v2 v3 : V) : List (Str × V) := [("memory", v0), ("old", v1), ("young", v2), ("spare", v3)]
theorem pi_Areas_memory {x  : V} : putF "memory" x ([] : List (Str × V)) = ([("memory", x)] : List (Str × V)) := rfl
theorem pf_Areas_memory {x v0 v1 v2 v3 : V} : putF "memory" x (F_Areas v0 v1 v2 v3) = F_Areas x v1 v2 v3 := rfl
theorem pi_Areas_old {x v0 : V} : putF "old" x ([("memory", v0)] : List (Str × V)) = ([("memory", v0), ("old", x)] : List (Str × V)) := rfl
theorem pf_Areas_old {x v0 v1 v2 v3 : V} : putF "old" x (F_Areas v0 v1 v2 v3) = F_Areas v0 x v2 v3 := rfl
theorem pi_Areas_young {x v0 v1 : V} : putF "young" x ([("memory", v0), ("old", v1)] : List (Str × V)) = ([("memory", v0), ("old", v1), ("young", x)] : List (Str × V)) := rfl
theorem pf_Areas_young {x v0 v1 v2 v3 : V} : putF "young" x (F_Areas v0 v1 v2 v3) = F_Areas v0 v1 x v3 := rfl
theorem pi_Areas_spare {x v0 v1 v2 : V} : putF "spare" x ([("memory", v0), ("old", v1), ("young", v2)] : List (Str × V)) = F_Areas v0 v1 v2 x := rfl
theorem pf_Areas_spare {x v0 v1 v2 v3 : V} : putF "spare" x (F_Areas v0 v1 v2 v3) = F_Areas v0 v1 v2 x := rfl
def F_Book (v0 : V) : List (Str × V) := [("marks", v0)]
theorem pi_Book_marks {x  : V} : putF "marks" x ([] : List (Str × V)) = F_Book  x := rfl
theorem pf_Book_marks {x v0 : V} : putF "marks" x (F_Book v0) = F_Book x := rfl
def F_Hands (v0 : V) : List (Str × V) := [("kept", v0)]
theorem pi_Hands_kept {x  : V} : putF "kept" x ([] : List (Str × V)) = F_Hands  x := rfl
theorem pf_Hands_kept {x v0 : V} : putF "kept" x (F_Hands v0) = F_Hands x := rfl
def F_Lasts (v0 v1 : V) : List (Str × V) := [("waiting", v0), ("spoken", v1)]
theorem pi_Lasts_waiting {x  : V} : putF "waiting" x ([] : List (Str × V)) = ([("waiting", x)] : List (Str × V)) := rfl
theorem pf_Lasts_waiting {x v0 v1 : V} : putF "waiting" x (F_Lasts v0 v1) = F_Lasts x v1 := rfl
theorem pi_Lasts_spoken {x v0 : V} : putF "spoken" x ([("waiting", v0)] : List (Str × V)) = F_Lasts v0 x := rfl
theorem pf_Lasts_spoken {x v0 v1 : V} : putF "spoken" x (F_Lasts v0 v1) = F_Lasts v0 x := rfl
def F_Weak (v0 : V) : List (Str × V) := [("told", v0)]
theorem pi_Weak_told {x  : V} : putF "told" x ([] : List (Str × V)) = F_Weak  x := rfl
theorem pf_Weak_told {x v0 : V} : putF "told" x (F_Weak v0) = F_Weak x := rfl
def F_Roots (v0 v1 v2 v3 : V) : List (Str × V) := [("hands", v0), ("book", v1), ("weaks", v2), ("lasts", v3)]
theorem pi_Roots_hands {x  : V} : putF "hands" x ([] : List (Str × V)) = ([("hands", x)] : List (Str × V)) := rfl
theorem pf_Roots_hands {x v0 v1 v2 v3 : V} : putF "hands" x (F_Roots v0 v1 v2 v3) = F_Roots x v1 v2 v3 := rfl
theorem pi_Roots_book {x v0 : V} : putF "book" x ([("hands", v0)] : List (Str × V)) = ([("hands", v0), ("book", x)] : List (Str × V)) := rfl
theorem pf_Roots_book {x v0 v1 v2 v3 : V} : putF "book" x (F_Roots v0 v1 v2 v3) = F_Roots v0 x v2 v3 := rfl
theorem pi_Roots_weaks {x v0 v1 : V} : putF "weaks" x ([("hands", v0), ("book", v1)] : List (Str × V)) = ([("hands", v0), ("book", v1), ("weaks", x)] : List (Str × V)) := rfl
theorem pf_Roots_weaks {x v0 v1 v2 v3 : V} : putF "weaks" x (F_Roots v0 v1 v2 v3) = F_Roots v0 v1 x v3 := rfl
theorem pi_Roots_lasts {x v0 v1 v2 : V} : putF "lasts" x ([("hands", v0), ("book", v1), ("weaks", v2)] : List (Str × V)) = F_Roots v0 v1 v2 x := rfl
theorem pf_Roots_lasts {x v0 v1 v2 v3 : V} : putF "lasts" x (F_Roots v0 v1 v2 v3) = F_Roots v0 v1 v2 x := rfl
def F_Heap (v0 v1 : V) : List (Str × V) := [("roots", v0), ("areas", v1)]
theorem pi_Heap_roots {x  : V} : putF "roots" x ([] : List (Str × V)) = ([("roots", x)] : List (Str × V)) := rfl
theorem pf_Heap_roots {x v0 v1 : V} : putF "roots" x (F_Heap v0 v1) = F_Heap x v1 := rfl
theorem pi_Heap_areas {x v0 : V} : putF "areas" x ([("roots", v0)] : List (Str × V)) = F_Heap v0 x := rfl
theorem pf_Heap_areas {x v0 v1 : V} : putF "areas" x (F_Heap v0 v1) = F_Heap v0 x := rfl
/-! ## the facts -/
def fa : List He.Fa := [.glo "KeepError", .glo "BadNumber", .glo "BadWord", .glo "BadCount", .glo "NoPlace", .glo "NoRoom", .glo "NoSlot", .glo "NoCell", .glo "NoHand", .glo "NothingHeld", .glo "NoName", .glo "Memory", .glo "Space", .glo "Areas", .glo "Book", .glo "Hands", .glo "Lasts", .glo "Weak", .glo "Roots", .glo "Heap", .glo "_wall", .glo "is_whole", .glo "number_word", .glo "place_word", .glo "kind", .glo "worth", .glo "need_slots", .glo "lay", .glo "head_of", .glo "slots_of", .glo "age_of", .glo "words_of", .glo "aged", .glo "slot_place", .glo "children", .glo "words_at", .glo "walked", .glo "told_places", .glo "due_places", .glo "faults", .glo "_law_draw", .glo "_law_made", .glo "_law_filled", .glo "_law_nowhere", .glo "_law_stray", .glo "_law_planted", .glo "law", .int "MOST_NUMBER" (1000000000000), .int "MOST_PLACE" (9999), .int "NOTHING" (-1), .int "MOST_SLOTS" (8), .int "MOST_AGE" (2), .int "MOST_SIZE" (4000), .int "LEAST_OLD" (4), .int "MOST_OLD" (2000), .int "LEAST_YOUNG" (2), .int "MOST_YOUNG" (500), .int "MOST_HANDS" (6), .free "isinstance", .free "len", .free "abs", .free "range", .free "max", .free "sorted", .free "enumerate", .free "any", .free "int", .free "bool", .free "list", .free "ValueError", .exc "KeepError", .exc "BadNumber", .exc "BadWord", .exc "BadCount", .exc "NoPlace", .exc "NoRoom", .exc "NoSlot", .exc "NoCell", .exc "NoHand", .exc "NothingHeld", .exc "NoName", .cls "Memory", .mkr "Memory", .meth "Memory" "need", .meth "Memory" "read", .meth "Memory" "write", .meth "Memory" "need_stretch", .meth "Memory" "copy", .noat "Memory" "size", .noat "Memory" "words", .cls "Space", .mkr "Space", .meth "Space" "room", .meth "Space" "used", .meth "Space" "has", .meth "Space" "take", .meth "Space" "empty", .meth "Space" "cut", .meth "Space" "cells", .noat "Space" "begin", .noat "Space" "end", .noat "Space" "top", .cls "Areas", .mkr "Areas", .meth "Areas" "flip", .meth "Areas" "area_of", .meth "Areas" "lay_young", .meth "Areas" "lay_old", .noat "Areas" "memory", .noat "Areas" "old", .noat "Areas" "young", .noat "Areas" "spare", .cls "Book", .mkr "Book", .meth "Book" "write", .meth "Book" "rub", .meth "Book" "has", .meth "Book" "places", .meth "Book" "clear", .noat "Book" "marks", .cls "Hands", .mkr "Hands", .meth "Hands" "need", .meth "Hands" "get", .meth "Hands" "put", .meth "Hands" "row", .noat "Hands" "kept", .cls "Lasts", .mkr "Lasts", .meth "Lasts" "give", .meth "Lasts" "need", .meth "Lasts" "move", .meth "Lasts" "say", .meth "Lasts" "pending", .meth "Lasts" "said", .noat "Lasts" "waiting", .noat "Lasts" "spoken", .cls "Weak", .mkr "Weak", .meth "Weak" "name", .meth "Weak" "need", .meth "Weak" "at", .meth "Weak" "need_there", .meth "Weak" "move", .meth "Weak" "gone", .meth "Weak" "names", .noat "Weak" "told", .cls "Roots", .mkr "Roots", .meth "Roots" "starts", .noat "Roots" "hands", .noat "Roots" "book", .noat "Roots" "weaks", .noat "Roots" "lasts", .cls "Heap", .mkr "Heap", .meth "Heap" "make", .meth "Heap" "held", .meth "Heap" "hold", .meth "Heap" "drop", .meth "Heap" "cell_of", .meth "Heap" "get", .meth "Heap" "put", .meth "Heap" "is_young", .noat "Heap" "roots", .noat "Heap" "areas"]
def d__wall : He.DefD := ⟨("_wall", none), "_wall", "_wall", defArgs s__wall, defBody s__wall, defScope s__wall, [], []⟩
def d_is_whole : He.DefD := ⟨("is_whole", none), "is_whole", "is_whole", defArgs s_is_whole, defBody s_is_whole, defScope s_is_whole, [], []⟩
def d_number_word : He.DefD := ⟨("number_word", none), "number_word", "number_word", defArgs s_number_word, defBody s_number_word, defScope s_number_word, [], []⟩
def d_place_word : He.DefD := ⟨("place_word", none), "place_word", "place_word", defArgs s_place_word, defBody s_place_word, defScope s_place_word, [], []⟩
def d_kind : He.DefD := ⟨("kind", none), "kind", "kind", defArgs s_kind, defBody s_kind, defScope s_kind, [], []⟩
def d_worth : He.DefD := ⟨("worth", none), "worth", "worth", defArgs s_worth, defBody s_worth, defScope s_worth, [], []⟩
def d_need_slots : He.DefD := ⟨("need_slots", none), "need_slots", "need_slots", defArgs s_need_slots, defBody s_need_slots, defScope s_need_slots, [], []⟩
def d_lay : He.DefD := ⟨("lay", none), "lay", "lay", defArgs s_lay, defBody s_lay, defScope s_lay, [], []⟩
def d_head_of : He.DefD := ⟨("head_of", none), "head_of", "head_of", defArgs s_head_of, defBody s_head_of, defScope s_head_of, [], []⟩
def d_slots_of : He.DefD := ⟨("slots_of", none), "slots_of", "slots_of", defArgs s_slots_of, defBody s_slots_of, defScope s_slots_of, [], []⟩
def d_age_of : He.DefD := ⟨("age_of", none), "age_of", "age_of", defArgs s_age_of, defBody s_age_of, defScope s_age_of, [], []⟩
def d_words_of : He.DefD := ⟨("words_of", none), "words_of", "words_of", defArgs s_words_of, defBody s_words_of, defScope s_words_of, [], []⟩
def d_aged : He.DefD := ⟨("aged", none), "aged", "aged", defArgs s_aged, defBody s_aged, defScope s_aged, [], []⟩
def d_slot_place : He.DefD := ⟨("slot_place", none), "slot_place", "slot_place", defArgs s_slot_place, defBody s_slot_place, defScope s_slot_place, [], []⟩
def d_children : He.DefD := ⟨("children", none), "children", "children", defArgs s_children, defBody s_children, defScope s_children, [], []⟩
def d_words_at : He.DefD := ⟨("words_at", none), "words_at", "words_at", defArgs s_words_at, defBody s_words_at, defScope s_words_at, [], []⟩
def d_walked : He.DefD := ⟨("walked", none), "walked", "walked", defArgs s_walked, defBody s_walked, defScope s_walked, [], []⟩
def d_told_places : He.DefD := ⟨("told_places", none), "told_places", "told_places", defArgs s_told_places, defBody s_told_places, defScope s_told_places, [], []⟩
def d_due_places : He.DefD := ⟨("due_places", none), "due_places", "due_places", defArgs s_due_places, defBody s_due_places, defScope s_due_places, [], []⟩
def d_faults : He.DefD := ⟨("faults", none), "faults", "faults", defArgs s_faults, defBody s_faults, defScope s_faults, [], []⟩
def d_Memory___init__ : He.DefD := ⟨("Memory", some "__init__"), "__init__", "Memory.__init__", defArgs s_Memory___init__, defBody s_Memory___init__, defScope s_Memory___init__, [], []⟩
def d_Memory_need : He.DefD := ⟨("Memory", some "need"), "need", "Memory.need", defArgs s_Memory_need, defBody s_Memory_need, defScope s_Memory_need, [], []⟩
def d_Memory_read : He.DefD := ⟨("Memory", some "read"), "read", "Memory.read", defArgs s_Memory_read, defBody s_Memory_read, defScope s_Memory_read, [], []⟩
def d_Memory_write : He.DefD := ⟨("Memory", some "write"), "write", "Memory.write", defArgs s_Memory_write, defBody s_Memory_write, defScope s_Memory_write, [], []⟩
def d_Memory_need_stretch : He.DefD := ⟨("Memory", some "need_stretch"), "need_stretch", "Memory.need_stretch", defArgs s_Memory_need_stretch, defBody s_Memory_need_stretch, defScope s_Memory_need_stretch, [], []⟩
def d_Memory_copy : He.DefD := ⟨("Memory", some "copy"), "copy", "Memory.copy", defArgs s_Memory_copy, defBody s_Memory_copy, defScope s_Memory_copy, [], []⟩
def d_Space___init__ : He.DefD := ⟨("Space", some "__init__"), "__init__", "Space.__init__", defArgs s_Space___init__, defBody s_Space___init__, defScope s_Space___init__, [], []⟩
def d_Space_room : He.DefD := ⟨("Space", some "room"), "room", "Space.room", defArgs s_Space_room, defBody s_Space_room, defScope s_Space_room, [], []⟩
def d_Space_used : He.DefD := ⟨("Space", some "used"), "used", "Space.used", defArgs s_Space_used, defBody s_Space_used, defScope s_Space_used, [], []⟩
def d_Space_has : He.DefD := ⟨("Space", some "has"), "has", "Space.has", defArgs s_Space_has, defBody s_Space_has, defScope s_Space_has, [], []⟩
def d_Space_take : He.DefD := ⟨("Space", some "take"), "take", "Space.take", defArgs s_Space_take, defBody s_Space_take, defScope s_Space_take, [], []⟩
def d_Space_empty : He.DefD := ⟨("Space", some "empty"), "empty", "Space.empty", defArgs s_Space_empty, defBody s_Space_empty, defScope s_Space_empty, [], []⟩
def d_Space_cut : He.DefD := ⟨("Space", some "cut"), "cut", "Space.cut", defArgs s_Space_cut, defBody s_Space_cut, defScope s_Space_cut, [], []⟩
def d_Space_cells : He.DefD := ⟨("Space", some "cells"), "cells", "Space.cells", defArgs s_Space_cells, defBody s_Space_cells, defScope s_Space_cells, [], []⟩
def d_Areas___init__ : He.DefD := ⟨("Areas", some "__init__"), "__init__", "Areas.__init__", defArgs s_Areas___init__, defBody s_Areas___init__, defScope s_Areas___init__, [], []⟩
def d_Areas_flip : He.DefD := ⟨("Areas", some "flip"), "flip", "Areas.flip", defArgs s_Areas_flip, defBody s_Areas_flip, defScope s_Areas_flip, [], []⟩
def d_Areas_area_of : He.DefD := ⟨("Areas", some "area_of"), "area_of", "Areas.area_of", defArgs s_Areas_area_of, defBody s_Areas_area_of, defScope s_Areas_area_of, [], []⟩
def d_Areas_lay_young : He.DefD := ⟨("Areas", some "lay_young"), "lay_young", "Areas.lay_young", defArgs s_Areas_lay_young, defBody s_Areas_lay_young, defScope s_Areas_lay_young, [], []⟩
def d_Areas_lay_old : He.DefD := ⟨("Areas", some "lay_old"), "lay_old", "Areas.lay_old", defArgs s_Areas_lay_old, defBody s_Areas_lay_old, defScope s_Areas_lay_old, [], []⟩
def d_Book___init__ : He.DefD := ⟨("Book", some "__init__"), "__init__", "Book.__init__", defArgs s_Book___init__, defBody s_Book___init__, defScope s_Book___init__, [], []⟩
def d_Book_write : He.DefD := ⟨("Book", some "write"), "write", "Book.write", defArgs s_Book_write, defBody s_Book_write, defScope s_Book_write, [], []⟩
def d_Book_rub : He.DefD := ⟨("Book", some "rub"), "rub", "Book.rub", defArgs s_Book_rub, defBody s_Book_rub, defScope s_Book_rub, [], []⟩
def d_Book_has : He.DefD := ⟨("Book", some "has"), "has", "Book.has", defArgs s_Book_has, defBody s_Book_has, defScope s_Book_has, [], []⟩
def d_Book_places : He.DefD := ⟨("Book", some "places"), "places", "Book.places", defArgs s_Book_places, defBody s_Book_places, defScope s_Book_places, [], []⟩
def d_Book_clear : He.DefD := ⟨("Book", some "clear"), "clear", "Book.clear", defArgs s_Book_clear, defBody s_Book_clear, defScope s_Book_clear, [], []⟩
def d_Hands___init__ : He.DefD := ⟨("Hands", some "__init__"), "__init__", "Hands.__init__", defArgs s_Hands___init__, defBody s_Hands___init__, defScope s_Hands___init__, [], []⟩
def d_Hands_need : He.DefD := ⟨("Hands", some "need"), "need", "Hands.need", defArgs s_Hands_need, defBody s_Hands_need, defScope s_Hands_need, [], []⟩
def d_Hands_get : He.DefD := ⟨("Hands", some "get"), "get", "Hands.get", defArgs s_Hands_get, defBody s_Hands_get, defScope s_Hands_get, [], []⟩
def d_Hands_put : He.DefD := ⟨("Hands", some "put"), "put", "Hands.put", defArgs s_Hands_put, defBody s_Hands_put, defScope s_Hands_put, [], []⟩
def d_Hands_row : He.DefD := ⟨("Hands", some "row"), "row", "Hands.row", defArgs s_Hands_row, defBody s_Hands_row, defScope s_Hands_row, [], []⟩
def d_Lasts___init__ : He.DefD := ⟨("Lasts", some "__init__"), "__init__", "Lasts.__init__", defArgs s_Lasts___init__, defBody s_Lasts___init__, defScope s_Lasts___init__, [], []⟩
def d_Lasts_give : He.DefD := ⟨("Lasts", some "give"), "give", "Lasts.give", defArgs s_Lasts_give, defBody s_Lasts_give, defScope s_Lasts_give, [], []⟩
def d_Lasts_need : He.DefD := ⟨("Lasts", some "need"), "need", "Lasts.need", defArgs s_Lasts_need, defBody s_Lasts_need, defScope s_Lasts_need, [], []⟩
def d_Lasts_move : He.DefD := ⟨("Lasts", some "move"), "move", "Lasts.move", defArgs s_Lasts_move, defBody s_Lasts_move, defScope s_Lasts_move, [], []⟩
def d_Lasts_say : He.DefD := ⟨("Lasts", some "say"), "say", "Lasts.say", defArgs s_Lasts_say, defBody s_Lasts_say, defScope s_Lasts_say, [], []⟩
def d_Lasts_pending : He.DefD := ⟨("Lasts", some "pending"), "pending", "Lasts.pending", defArgs s_Lasts_pending, defBody s_Lasts_pending, defScope s_Lasts_pending, [], []⟩
def d_Lasts_said : He.DefD := ⟨("Lasts", some "said"), "said", "Lasts.said", defArgs s_Lasts_said, defBody s_Lasts_said, defScope s_Lasts_said, [], []⟩
def d_Weak___init__ : He.DefD := ⟨("Weak", some "__init__"), "__init__", "Weak.__init__", defArgs s_Weak___init__, defBody s_Weak___init__, defScope s_Weak___init__, [], []⟩
def d_Weak_name : He.DefD := ⟨("Weak", some "name"), "name", "Weak.name", defArgs s_Weak_name, defBody s_Weak_name, defScope s_Weak_name, [], []⟩
def d_Weak_need : He.DefD := ⟨("Weak", some "need"), "need", "Weak.need", defArgs s_Weak_need, defBody s_Weak_need, defScope s_Weak_need, [], []⟩
def d_Weak_at : He.DefD := ⟨("Weak", some "at"), "at", "Weak.at", defArgs s_Weak_at, defBody s_Weak_at, defScope s_Weak_at, [], []⟩
def d_Weak_need_there : He.DefD := ⟨("Weak", some "need_there"), "need_there", "Weak.need_there", defArgs s_Weak_need_there, defBody s_Weak_need_there, defScope s_Weak_need_there, [], []⟩
def d_Weak_move : He.DefD := ⟨("Weak", some "move"), "move", "Weak.move", defArgs s_Weak_move, defBody s_Weak_move, defScope s_Weak_move, [], []⟩
def d_Weak_gone : He.DefD := ⟨("Weak", some "gone"), "gone", "Weak.gone", defArgs s_Weak_gone, defBody s_Weak_gone, defScope s_Weak_gone, [], []⟩
def d_Weak_names : He.DefD := ⟨("Weak", some "names"), "names", "Weak.names", defArgs s_Weak_names, defBody s_Weak_names, defScope s_Weak_names, [], []⟩
def d_Roots___init__ : He.DefD := ⟨("Roots", some "__init__"), "__init__", "Roots.__init__", defArgs s_Roots___init__, defBody s_Roots___init__, defScope s_Roots___init__, [], []⟩
def d_Roots_starts : He.DefD := ⟨("Roots", some "starts"), "starts", "Roots.starts", defArgs s_Roots_starts, defBody s_Roots_starts, defScope s_Roots_starts, [], []⟩
def d_Heap___init__ : He.DefD := ⟨("Heap", some "__init__"), "__init__", "Heap.__init__", defArgs s_Heap___init__, defBody s_Heap___init__, defScope s_Heap___init__, [], []⟩
def d_Heap_make : He.DefD := ⟨("Heap", some "make"), "make", "Heap.make", defArgs s_Heap_make, defBody s_Heap_make, defScope s_Heap_make, [], []⟩
def d_Heap_held : He.DefD := ⟨("Heap", some "held"), "held", "Heap.held", defArgs s_Heap_held, defBody s_Heap_held, defScope s_Heap_held, [], []⟩
def d_Heap_hold : He.DefD := ⟨("Heap", some "hold"), "hold", "Heap.hold", defArgs s_Heap_hold, defBody s_Heap_hold, defScope s_Heap_hold, [], []⟩
def d_Heap_drop : He.DefD := ⟨("Heap", some "drop"), "drop", "Heap.drop", defArgs s_Heap_drop, defBody s_Heap_drop, defScope s_Heap_drop, [], []⟩
def d_Heap_cell_of : He.DefD := ⟨("Heap", some "cell_of"), "cell_of", "Heap.cell_of", defArgs s_Heap_cell_of, defBody s_Heap_cell_of, defScope s_Heap_cell_of, [], []⟩
def d_Heap_get : He.DefD := ⟨("Heap", some "get"), "get", "Heap.get", defArgs s_Heap_get, defBody s_Heap_get, defScope s_Heap_get, [], []⟩
def d_Heap_put : He.DefD := ⟨("Heap", some "put"), "put", "Heap.put", defArgs s_Heap_put, defBody s_Heap_put, defScope s_Heap_put, [], []⟩
def d_Heap_is_young : He.DefD := ⟨("Heap", some "is_young"), "is_young", "Heap.is_young", defArgs s_Heap_is_young, defBody s_Heap_is_young, defScope s_Heap_is_young, [], []⟩
def d__law_draw : He.DefD := ⟨("_law_draw", none), "_law_draw", "_law_draw", defArgs s__law_draw, defBody s__law_draw, defScope s__law_draw, [], []⟩
def d__law_made : He.DefD := ⟨("_law_made", none), "_law_made", "_law_made", defArgs s__law_made, defBody s__law_made, defScope s__law_made, [], []⟩
def d__law_filled : He.DefD := ⟨("_law_filled", none), "_law_filled", "_law_filled", defArgs s__law_filled, defBody s__law_filled, defScope s__law_filled, [], []⟩
def d__law_nowhere : He.DefD := ⟨("_law_nowhere", none), "_law_nowhere", "_law_nowhere", defArgs s__law_nowhere, defBody s__law_nowhere, defScope s__law_nowhere, [], []⟩
def d__law_stray : He.DefD := ⟨("_law_stray", none), "_law_stray", "_law_stray", defArgs s__law_stray, defBody s__law_stray, defScope s__law_stray, [], []⟩
def d__law_planted : He.DefD := ⟨("_law_planted", none), "_law_planted", "_law_planted", defArgs s__law_planted, defBody s__law_planted, defScope s__law_planted, [], []⟩
def d_law : He.DefD := ⟨("law", none), "law", "law", defArgs s_law, defBody s_law, defScope s_law, [], []⟩
def fn : List He.DefD := [d__wall, d_is_whole, d_number_word, d_place_word, d_kind, d_worth, d_need_slots, d_lay, d_head_of, d_slots_of, d_age_of, d_words_of, d_aged, d_slot_place, d_children, d_words_at, d_walked, d_told_places, d_due_places, d_faults, d_Memory___init__, d_Memory_need, d_Memory_read, d_Memory_write, d_Memory_need_stretch, d_Memory_copy, d_Space___init__, d_Space_room, d_Space_used, d_Space_has, d_Space_take, d_Space_empty, d_Space_cut, d_Space_cells, d_Areas___init__, d_Areas_flip, d_Areas_area_of, d_Areas_lay_young, d_Areas_lay_old, d_Book___init__, d_Book_write, d_Book_rub, d_Book_has, d_Book_places, d_Book_clear, d_Hands___init__, d_Hands_need, d_Hands_get, d_Hands_put, d_Hands_row, d_Lasts___init__, d_Lasts_give, d_Lasts_need, d_Lasts_move, d_Lasts_say, d_Lasts_pending, d_Lasts_said, d_Weak___init__, d_Weak_name, d_Weak_need, d_Weak_at, d_Weak_need_there, d_Weak_move, d_Weak_gone, d_Weak_names, d_Roots___init__, d_Roots_starts, d_Heap___init__, d_Heap_make, d_Heap_held, d_Heap_hold, d_Heap_drop, d_Heap_cell_of, d_Heap_get, d_Heap_put, d_Heap_is_young, d__law_draw, d__law_made, d__law_filled, d__law_nowhere, d__law_stray, d__law_planted, d_law]
def exL : XL := ⟨["KeepError", "BadNumber", "BadWord", "BadCount", "NoPlace", "NoRoom", "NoSlot", "NoCell", "NoHand", "NothingHeld", "NoName"], []⟩
abbrev Tx (K : PySem.W.Frag) (mg : Str → Option Value) : Prop := Told fa fn exL K mg
theorem sc__wall : FnScope ["k"] ["k"] (defScope s__wall) := ⟨rfl, rfl, rfl, by decide +kernel, rfl, by decide +kernel, by decide +kernel⟩
theorem sc_is_whole : FnScope ["thing"] ["thing"] (defScope s_is_whole) := ⟨rfl, rfl, rfl, by decide +kernel, rfl, by decide +kernel, by decide +kernel⟩
theorem sc_number_word : FnScope ["number"] ["number"] (defScope s_number_word) := ⟨rfl, rfl, rfl, by decide +kernel, rfl, by decide +kernel, by decide +kernel⟩
theorem sc_place_word : FnScope ["at"] ["at"] (defScope s_place_word) := ⟨rfl, rfl, rfl, by decide +kernel, rfl, by decide +kernel, by decide +kernel⟩
theorem sc_kind : FnScope ["word"] ["word"] (defScope s_kind) := ⟨rfl, rfl, rfl, by decide +kernel, rfl, by decide +kernel, by decide +kernel⟩
theorem sc_worth : FnScope ["word"] ["word"] (defScope s_worth) := ⟨rfl, rfl, rfl, by decide +kernel, rfl, by decide +kernel, by decide +kernel⟩
theorem sc_need_slots : FnScope ["slots"] ["slots"] (defScope s_need_slots) := ⟨rfl, rfl, rfl, by decide +kernel, rfl, by decide +kernel, by decide +kernel⟩
theorem sc_lay : FnScope ["memory", "at", "slots", "slot"] ["memory", "at", "slots"] (defScope s_lay) := ⟨rfl, rfl, rfl, by decide +kernel, rfl, by decide +kernel, by decide +kernel⟩
theorem sc_head_of : FnScope ["memory", "at", "word"] ["memory", "at"] (defScope s_head_of) := ⟨rfl, rfl, rfl, by decide +kernel, rfl, by decide +kernel, by decide +kernel⟩
theorem sc_slots_of : FnScope ["memory", "at"] ["memory", "at"] (defScope s_slots_of) := ⟨rfl, rfl, rfl, by decide +kernel, rfl, by decide +kernel, by decide +kernel⟩
theorem sc_age_of : FnScope ["memory", "at"] ["memory", "at"] (defScope s_age_of) := ⟨rfl, rfl, rfl, by decide +kernel, rfl, by decide +kernel, by decide +kernel⟩
theorem sc_words_of : FnScope ["memory", "at"] ["memory", "at"] (defScope s_words_of) := ⟨rfl, rfl, rfl, by decide +kernel, rfl, by decide +kernel, by decide +kernel⟩
theorem sc_aged : FnScope ["memory", "at", "age", "slots"] ["memory", "at", "age"] (defScope s_aged) := ⟨rfl, rfl, rfl, by decide +kernel, rfl, by decide +kernel, by decide +kernel⟩
theorem sc_slot_place : FnScope ["memory", "at", "slot", "slots"] ["memory", "at", "slot"] (defScope s_slot_place) := ⟨rfl, rfl, rfl, by decide +kernel, rfl, by decide +kernel, by decide +kernel⟩
theorem sc_children : FnScope ["memory", "at", "found", "slot", "word"] ["memory", "at"] (defScope s_children) := ⟨rfl, rfl, rfl, by decide +kernel, rfl, by decide +kernel, by decide +kernel⟩
theorem sc_words_at : FnScope ["memory", "at"] ["memory", "at"] (defScope s_words_at) := ⟨rfl, rfl, rfl, by decide +kernel, rfl, by decide +kernel, by decide +kernel⟩
theorem sc_walked : FnScope ["memory", "space", "found", "at", "many"] ["memory", "space"] (defScope s_walked) := ⟨rfl, rfl, rfl, by decide +kernel, rfl, by decide +kernel, by decide +kernel⟩
theorem sc_told_places : FnScope ["memory", "roots", "cells", "found", "at", "pair", "one"] ["memory", "roots", "cells"] (defScope s_told_places) := ⟨rfl, rfl, rfl, by decide +kernel, rfl, by decide +kernel, by decide +kernel⟩
theorem sc_due_places : FnScope ["memory", "olds", "youngs", "found", "at", "slot", "word"] ["memory", "olds", "youngs"] (defScope s_due_places) := ⟨rfl, rfl, rfl, by decide +kernel, rfl, by decide +kernel, by decide +kernel⟩
theorem sc_faults : FnScope ["areas", "roots", "memory", "olds", "youngs", "found", "at"] ["areas", "roots"] (defScope s_faults) := ⟨rfl, rfl, rfl, by decide +kernel, rfl, by decide +kernel, by decide +kernel⟩
theorem sc_Memory___init__ : FnScope ["self", "size", "at"] ["self", "size"] (defScope s_Memory___init__) := ⟨rfl, rfl, rfl, by decide +kernel, rfl, by decide +kernel, by decide +kernel⟩
theorem sc_Memory_need : FnScope ["self", "at"] ["self", "at"] (defScope s_Memory_need) := ⟨rfl, rfl, rfl, by decide +kernel, rfl, by decide +kernel, by decide +kernel⟩
theorem sc_Memory_read : FnScope ["self", "at"] ["self", "at"] (defScope s_Memory_read) := ⟨rfl, rfl, rfl, by decide +kernel, rfl, by decide +kernel, by decide +kernel⟩
theorem sc_Memory_write : FnScope ["self", "at", "word"] ["self", "at", "word"] (defScope s_Memory_write) := ⟨rfl, rfl, rfl, by decide +kernel, rfl, by decide +kernel, by decide +kernel⟩
theorem sc_Memory_need_stretch : FnScope ["self", "at", "many"] ["self", "at", "many"] (defScope s_Memory_need_stretch) := ⟨rfl, rfl, rfl, by decide +kernel, rfl, by decide +kernel, by decide +kernel⟩
theorem sc_Memory_copy : FnScope ["self", "start", "goal", "many"] ["self", "start", "goal", "many"] (defScope s_Memory_copy) := ⟨rfl, rfl, rfl, by decide +kernel, rfl, by decide +kernel, by decide +kernel⟩
theorem sc_Space___init__ : FnScope ["self", "begin", "end"] ["self", "begin", "end"] (defScope s_Space___init__) := ⟨rfl, rfl, rfl, by decide +kernel, rfl, by decide +kernel, by decide +kernel⟩
theorem sc_Space_room : FnScope ["self"] ["self"] (defScope s_Space_room) := ⟨rfl, rfl, rfl, by decide +kernel, rfl, by decide +kernel, by decide +kernel⟩
theorem sc_Space_used : FnScope ["self"] ["self"] (defScope s_Space_used) := ⟨rfl, rfl, rfl, by decide +kernel, rfl, by decide +kernel, by decide +kernel⟩
theorem sc_Space_has : FnScope ["self", "at"] ["self", "at"] (defScope s_Space_has) := ⟨rfl, rfl, rfl, by decide +kernel, rfl, by decide +kernel, by decide +kernel⟩
theorem sc_Space_take : FnScope ["self", "many", "at"] ["self", "many"] (defScope s_Space_take) := ⟨rfl, rfl, rfl, by decide +kernel, rfl, by decide +kernel, by decide +kernel⟩
theorem sc_Space_empty : FnScope ["self"] ["self"] (defScope s_Space_empty) := ⟨rfl, rfl, rfl, by decide +kernel, rfl, by decide +kernel, by decide +kernel⟩
theorem sc_Space_cut : FnScope ["self", "top"] ["self", "top"] (defScope s_Space_cut) := ⟨rfl, rfl, rfl, by decide +kernel, rfl, by decide +kernel, by decide +kernel⟩
theorem sc_Space_cells : FnScope ["self", "memory", "found", "at"] ["self", "memory"] (defScope s_Space_cells) := ⟨rfl, rfl, rfl, by decide +kernel, rfl, by decide +kernel, by decide +kernel⟩
theorem sc_Areas___init__ : FnScope ["self", "old_words", "young_words"] ["self", "old_words", "young_words"] (defScope s_Areas___init__) := ⟨rfl, rfl, rfl, by decide +kernel, rfl, by decide +kernel, by decide +kernel⟩
theorem sc_Areas_flip : FnScope ["self", "kept"] ["self"] (defScope s_Areas_flip) := ⟨rfl, rfl, rfl, by decide +kernel, rfl, by decide +kernel, by decide +kernel⟩
theorem sc_Areas_area_of : FnScope ["self", "at"] ["self", "at"] (defScope s_Areas_area_of) := ⟨rfl, rfl, rfl, by decide +kernel, rfl, by decide +kernel, by decide +kernel⟩
theorem sc_Areas_lay_young : FnScope ["self", "slots", "at"] ["self", "slots"] (defScope s_Areas_lay_young) := ⟨rfl, rfl, rfl, by decide +kernel, rfl, by decide +kernel, by decide +kernel⟩
theorem sc_Areas_lay_old : FnScope ["self", "slots", "at"] ["self", "slots"] (defScope s_Areas_lay_old) := ⟨rfl, rfl, rfl, by decide +kernel, rfl, by decide +kernel, by decide +kernel⟩
theorem sc_Book___init__ : FnScope ["self"] ["self"] (defScope s_Book___init__) := ⟨rfl, rfl, rfl, by decide +kernel, rfl, by decide +kernel, by decide +kernel⟩
theorem sc_Book_write : FnScope ["self", "place"] ["self", "place"] (defScope s_Book_write) := ⟨rfl, rfl, rfl, by decide +kernel, rfl, by decide +kernel, by decide +kernel⟩
theorem sc_Book_rub : FnScope ["self", "place"] ["self", "place"] (defScope s_Book_rub) := ⟨rfl, rfl, rfl, by decide +kernel, rfl, by decide +kernel, by decide +kernel⟩
theorem sc_Book_has : FnScope ["self", "place"] ["self", "place"] (defScope s_Book_has) := ⟨rfl, rfl, rfl, by decide +kernel, rfl, by decide +kernel, by decide +kernel⟩
theorem sc_Book_places : FnScope ["self"] ["self"] (defScope s_Book_places) := ⟨rfl, rfl, rfl, by decide +kernel, rfl, by decide +kernel, by decide +kernel⟩
theorem sc_Book_clear : FnScope ["self"] ["self"] (defScope s_Book_clear) := ⟨rfl, rfl, rfl, by decide +kernel, rfl, by decide +kernel, by decide +kernel⟩
theorem sc_Hands___init__ : FnScope ["self", "many", "hand"] ["self", "many"] (defScope s_Hands___init__) := ⟨rfl, rfl, rfl, by decide +kernel, rfl, by decide +kernel, by decide +kernel⟩
theorem sc_Hands_need : FnScope ["self", "hand"] ["self", "hand"] (defScope s_Hands_need) := ⟨rfl, rfl, rfl, by decide +kernel, rfl, by decide +kernel, by decide +kernel⟩
theorem sc_Hands_get : FnScope ["self", "hand"] ["self", "hand"] (defScope s_Hands_get) := ⟨rfl, rfl, rfl, by decide +kernel, rfl, by decide +kernel, by decide +kernel⟩
theorem sc_Hands_put : FnScope ["self", "hand", "word"] ["self", "hand", "word"] (defScope s_Hands_put) := ⟨rfl, rfl, rfl, by decide +kernel, rfl, by decide +kernel, by decide +kernel⟩
theorem sc_Hands_row : FnScope ["self"] ["self"] (defScope s_Hands_row) := ⟨rfl, rfl, rfl, by decide +kernel, rfl, by decide +kernel, by decide +kernel⟩
theorem sc_Lasts___init__ : FnScope ["self"] ["self"] (defScope s_Lasts___init__) := ⟨rfl, rfl, rfl, by decide +kernel, rfl, by decide +kernel, by decide +kernel⟩
theorem sc_Lasts_give : FnScope ["self", "at", "number"] ["self", "at", "number"] (defScope s_Lasts_give) := ⟨rfl, rfl, rfl, by decide +kernel, rfl, by decide +kernel, by decide +kernel⟩
theorem sc_Lasts_need : FnScope ["self", "ticket"] ["self", "ticket"] (defScope s_Lasts_need) := ⟨rfl, rfl, rfl, by decide +kernel, rfl, by decide +kernel, by decide +kernel⟩
theorem sc_Lasts_move : FnScope ["self", "ticket", "at"] ["self", "ticket", "at"] (defScope s_Lasts_move) := ⟨rfl, rfl, rfl, by decide +kernel, rfl, by decide +kernel, by decide +kernel⟩
theorem sc_Lasts_say : FnScope ["self", "ticket"] ["self", "ticket"] (defScope s_Lasts_say) := ⟨rfl, rfl, rfl, by decide +kernel, rfl, by decide +kernel, by decide +kernel⟩
theorem sc_Lasts_pending : FnScope ["self", "found", "ticket", "pair"] ["self"] (defScope s_Lasts_pending) := ⟨rfl, rfl, rfl, by decide +kernel, rfl, by decide +kernel, by decide +kernel⟩
theorem sc_Lasts_said : FnScope ["self"] ["self"] (defScope s_Lasts_said) := ⟨rfl, rfl, rfl, by decide +kernel, rfl, by decide +kernel, by decide +kernel⟩
theorem sc_Weak___init__ : FnScope ["self"] ["self"] (defScope s_Weak___init__) := ⟨rfl, rfl, rfl, by decide +kernel, rfl, by decide +kernel, by decide +kernel⟩
theorem sc_Weak_name : FnScope ["self", "at"] ["self", "at"] (defScope s_Weak_name) := ⟨rfl, rfl, rfl, by decide +kernel, rfl, by decide +kernel, by decide +kernel⟩
theorem sc_Weak_need : FnScope ["self", "name"] ["self", "name"] (defScope s_Weak_need) := ⟨rfl, rfl, rfl, by decide +kernel, rfl, by decide +kernel, by decide +kernel⟩
theorem sc_Weak_at : FnScope ["self", "name"] ["self", "name"] (defScope s_Weak_at) := ⟨rfl, rfl, rfl, by decide +kernel, rfl, by decide +kernel, by decide +kernel⟩
theorem sc_Weak_need_there : FnScope ["self", "name"] ["self", "name"] (defScope s_Weak_need_there) := ⟨rfl, rfl, rfl, by decide +kernel, rfl, by decide +kernel, by decide +kernel⟩
theorem sc_Weak_move : FnScope ["self", "name", "at"] ["self", "name", "at"] (defScope s_Weak_move) := ⟨rfl, rfl, rfl, by decide +kernel, rfl, by decide +kernel, by decide +kernel⟩
theorem sc_Weak_gone : FnScope ["self", "name"] ["self", "name"] (defScope s_Weak_gone) := ⟨rfl, rfl, rfl, by decide +kernel, rfl, by decide +kernel, by decide +kernel⟩
theorem sc_Weak_names : FnScope ["self", "name", "at"] ["self"] (defScope s_Weak_names) := ⟨rfl, rfl, rfl, by decide +kernel, rfl, by decide +kernel, by decide +kernel⟩
theorem sc_Roots___init__ : FnScope ["self", "many"] ["self", "many"] (defScope s_Roots___init__) := ⟨rfl, rfl, rfl, by decide +kernel, rfl, by decide +kernel, by decide +kernel⟩
theorem sc_Roots_starts : FnScope ["self", "word"] ["self"] (defScope s_Roots_starts) := ⟨rfl, rfl, rfl, by decide +kernel, rfl, by decide +kernel, by decide +kernel⟩
theorem sc_Heap___init__ : FnScope ["self", "hands", "old_words", "young_words"] ["self", "hands", "old_words", "young_words"] (defScope s_Heap___init__) := ⟨rfl, rfl, rfl, by decide +kernel, rfl, by decide +kernel, by decide +kernel⟩
theorem sc_Heap_make : FnScope ["self", "hand", "slots", "young", "at"] ["self", "hand", "slots"] (defScope s_Heap_make) := ⟨rfl, rfl, rfl, by decide +kernel, rfl, by decide +kernel, by decide +kernel⟩
theorem sc_Heap_held : FnScope ["self", "hand"] ["self", "hand"] (defScope s_Heap_held) := ⟨rfl, rfl, rfl, by decide +kernel, rfl, by decide +kernel, by decide +kernel⟩
theorem sc_Heap_hold : FnScope ["self", "hand", "word"] ["self", "hand", "word"] (defScope s_Heap_hold) := ⟨rfl, rfl, rfl, by decide +kernel, rfl, by decide +kernel, by decide +kernel⟩
theorem sc_Heap_drop : FnScope ["self", "hand"] ["self", "hand"] (defScope s_Heap_drop) := ⟨rfl, rfl, rfl, by decide +kernel, rfl, by decide +kernel, by decide +kernel⟩
theorem sc_Heap_cell_of : FnScope ["self", "hand", "word"] ["self", "hand"] (defScope s_Heap_cell_of) := ⟨rfl, rfl, rfl, by decide +kernel, rfl, by decide +kernel, by decide +kernel⟩
theorem sc_Heap_get : FnScope ["self", "hand", "slot", "at"] ["self", "hand", "slot"] (defScope s_Heap_get) := ⟨rfl, rfl, rfl, by decide +kernel, rfl, by decide +kernel, by decide +kernel⟩
theorem sc_Heap_put : FnScope ["self", "hand", "slot", "word", "at", "place"] ["self", "hand", "slot", "word"] (defScope s_Heap_put) := ⟨rfl, rfl, rfl, by decide +kernel, rfl, by decide +kernel, by decide +kernel⟩
theorem sc_Heap_is_young : FnScope ["self", "word"] ["self", "word"] (defScope s_Heap_is_young) := ⟨rfl, rfl, rfl, by decide +kernel, rfl, by decide +kernel, by decide +kernel⟩
theorem sc__law_draw : FnScope ["_law_script", "_law_k"] ["_law_script", "_law_k"] (defScope s__law_draw) := ⟨rfl, rfl, rfl, by decide +kernel, rfl, by decide +kernel, by decide +kernel⟩
theorem sc__law_made : FnScope ["_law_heap", "_law_hand", "_law_slots"] ["_law_heap", "_law_hand", "_law_slots"] (defScope s__law_made) := ⟨rfl, rfl, rfl, by decide +kernel, rfl, by decide +kernel, by decide +kernel⟩
theorem sc__law_filled : FnScope ["_law_heap", "_law_cell", "_law_hand", "_law_made_here", "_law_at", "_law_slot"] ["_law_heap", "_law_cell"] (defScope s__law_filled) := ⟨rfl, rfl, rfl, by decide +kernel, rfl, by decide +kernel, by decide +kernel⟩
theorem sc__law_nowhere : FnScope ["_law_heap", "_law_cells", "_law_draw_here", "_law_areas", "_law_some", "_law_at"] ["_law_heap", "_law_cells", "_law_draw_here"] (defScope s__law_nowhere) := ⟨rfl, rfl, rfl, by decide +kernel, rfl, by decide +kernel, by decide +kernel⟩
theorem sc__law_stray : FnScope ["_law_heap", "_law_way", "_law_at", "_law_nowhere_here"] ["_law_heap", "_law_way", "_law_at", "_law_nowhere_here"] (defScope s__law_stray) := ⟨rfl, rfl, rfl, by decide +kernel, rfl, by decide +kernel, by decide +kernel⟩
theorem sc__law_planted : FnScope ["_law_heap", "_law_cells", "_law_way", "_law_at", "_law_draw_here", "_law_old_words", "_law_slots", "_law_there"] ["_law_heap", "_law_cells", "_law_way", "_law_at", "_law_draw_here"] (defScope s__law_planted) := ⟨rfl, rfl, rfl, by decide +kernel, rfl, by decide +kernel, by decide +kernel⟩
theorem sc_law : FnScope ["_law_script", "_law_old_words", "_law_heap", "_law_cells", "_law_cell", "_law_due", "_law_sound", "_law_kept", "_law_way", "_law_at", "_law_draw_here", "_law_planted_here", "_law_more", "_law_last", "_law_one", "_law_word", "_law_found", "_law_again"] ["_law_script"] (defScope s_law) := ⟨rfl, rfl, rfl, by decide +kernel, rfl, by decide +kernel, by decide +kernel⟩

/-! ## the head and the end -/
abbrev RR : PySem.W.OpenRow := PySem.W.OpenLaw.row PySem.Challenge.rw_cellkeep_k20_what_is_not_sound
abbrev hk : PySem.W.Hook := hookG 6 fa fn exL
def ob (s : PySem.W.SharedT) : He.AlD × Bool := lookG 6 fa fn exL (HandSHeadRun.getT s)
theorem ob_eq (s : PySem.W.SharedT) : ob s = hk.obs s.abs := lookG_eq (HandSHeadRun.getT_eq s)
def loose : List Str := (["_wall", "KeepError", "BadNumber", "BadWord", "BadCount", "NoPlace", "NoRoom", "NoSlot", "NoCell", "NoHand", "NothingHeld", "NoName", "MOST_NUMBER", "MOST_PLACE", "NOTHING", "is_whole", "number_word", "place_word", "kind", "worth", "MOST_SLOTS", "MOST_AGE", "need_slots", "lay", "head_of", "slots_of", "age_of", "words_of", "aged", "slot_place"] : List Str) ++ (["children", "words_at", "walked", "told_places", "due_places", "faults", "MOST_SIZE", "Memory", "Space", "LEAST_OLD", "MOST_OLD", "LEAST_YOUNG", "MOST_YOUNG", "Areas", "Book", "MOST_HANDS", "Hands", "Lasts", "Weak", "Roots", "Heap", "_law_draw", "_law_made", "_law_filled", "_law_nowhere", "_law_stray", "_law_planted"] : List Str)
theorem run (w : World) : HandSHeadRun.RunEq RR (PySem.W.view RR.prog [71]) hk ob 16000 loose w := by
  intro os
  kernel_rfl

/-! ## words -/
/-- a plain thing that is no whole number -/
def Odd (H : Hp) (v : V) : Prop := ∃ t, tyOf v H = some t ∧ t ≠ "int"
theorem odd_not {H : Hp} {n : Int} : ¬ Odd H (.int n) := fun ⟨t, e, h⟩ => h (Option.some.inj e).symm
theorem odd_bl {H : Hp} {b : Bool} : Odd H (.bl b) := ⟨"bool", rfl, by decide⟩
theorem odd_non {H : Hp} : Odd H .non := ⟨"NoneType", rfl, by decide⟩
theorem odd_str {H : Hp} {z : Str} : Odd H (.str z) := ⟨"str", rfl, by decide⟩
theorem odd_lst {H : Hp} {a : Addr} {xs : List V} (h : H a = some (.lst xs)) : Odd H (.ref a) := ⟨"list", by show tyO (H a) = _; rw [h]; rfl, by decide⟩
theorem odd_tup {H : Hp} {a : Addr} {xs : List V} (h : H a = some (.tup xs)) : Odd H (.ref a) := ⟨"tuple", by show tyO (H a) = _; rw [h]; rfl, by decide⟩
theorem odd_dK {H : Hp} {a : Addr} {kvs : List (Key × V)} (h : H a = some (.dK kvs)) : Odd H (.ref a) := ⟨"dict", by show tyO (H a) = _; rw [h]; rfl, by decide⟩
inductive Wd where
  | num (n : Int) | place (p : Int) | nothing
  deriving DecidableEq
def Wd.kind : Wd → Str
  | .num _ => "number"
  | .place _ => "place"
  | .nothing => "nothing"
def Wd.worth : Wd → V
  | .num n => .int n
  | .place p => .int p
  | .nothing => .non
def wordOf (n : Int) : Option Wd := if n = -1 then some .nothing else if n % 2 = 0 ∧ (n.natAbs : Int) ≤ 2000000000000 then some (.num (n / 2)) else if n % 2 = 1 ∧ 0 < n ∧ n ≤ 19999 then some (.place (n / 2)) else none
abbrev Ex (K : PySem.W.Frag) (x : Str) : Value := .ref (He.ga K x)
def sp_is_whole : Sp
  | [.int _], H, Q, _ => Q (.bl true) H
  | [v], H, Q, _ => Odd H v ∧ Q (.bl false) H
  | _, _, _, _ => False
theorem len_is_whole {vs H Q E} (h : sp_is_whole vs H Q E) : vs.length = 1 := by unfold sp_is_whole at h; split at h <;> first | rfl | exact h.elim
theorem odd_whole {H : Hp} {v : V} {Q : VK} {E : XK} (h : Odd H v) : sp_is_whole [v] H Q E = Q (.bl false) H := by
  cases v with
  | int n => exact (odd_not h).elim
  | _ => exact propext ⟨fun z => z.2, fun z => ⟨h, z⟩⟩
theorem x_whole {H : Hp} {n : Int} {Q : VK} {E : XK} : sp_is_whole [.int n] H Q E = Q (.bl true) H := rfl
/-- the two questions of is_whole -/
theorem whole_odd {H : Hp} {v : V} {Q : VK} (h : Odd H v) (q : Q (.bl false) H) : gIsi [v, .ty "int"] H fun x H1 => ∃ c, x = .bl c ∧ if c = true then gIsi [v, .ty "bool"] H1 (fun x H2 => ∃ c, x = .bl c ∧ Q (.bl (!c)) H2) else Q (.bl false) H1 := by
  obtain ⟨t, e, ne⟩ := h
  refine ⟨by decide, t, e, _, rfl, ?_⟩
  have m := tyOf_in e
  split
  · rename_i c
    have tb : t = "bool" := by
      simp only [tys, List.mem_cons, List.not_mem_nil, or_false] at m
      rcases m with rfl | rfl | rfl | rfl | rfl | rfl | rfl
      · exact absurd c (by decide)
      · rfl
      · exact absurd rfl ne
      · exact absurd c (by decide)
      · exact absurd c (by decide)
      · exact absurd c (by decide)
      · exact absurd c (by decide)
    subst tb
    exact ⟨by decide, _, e, _, rfl, q⟩
  · exact q
theorem whole_int {H : Hp} {n : Int} {Q : VK} (q : Q (.bl true) H) : gIsi [.int n, .ty "int"] H fun x H1 => ∃ c, x = .bl c ∧ if c = true then gIsi [.int n, .ty "bool"] H1 (fun x H2 => ∃ c, x = .bl c ∧ Q (.bl (!c)) H2) else Q (.bl false) H1 :=
  ⟨by decide, _, rfl, _, rfl, by rw [if_pos (by decide)]; exact ⟨by decide, _, rfl, _, rfl, q⟩⟩
def sp_number_word (K : PySem.W.Frag) : Sp
  | [.int n], H, Q, E => if (n.natAbs : Int) ≤ 1000000000000 then Q (.int (2 * n)) H else E (Ex K "BadNumber") none H
  | [v], H, _, E => Odd H v ∧ E (Ex K "BadNumber") none H
  | _, _, _, _ => False
theorem odd_number_word {K : PySem.W.Frag} {H : Hp} {v : V} {Q : VK} {E : XK} (h : Odd H v) : sp_number_word K [v] H Q E = E (Ex K "BadNumber") none H := by
  cases v with
  | int n => exact (odd_not h).elim
  | _ => exact propext ⟨fun z => z.2, fun z => ⟨h, z⟩⟩
theorem one_number_word {K : PySem.W.Frag} {vs : List V} {H : Hp} {Q : VK} {E : XK} (h : sp_number_word K vs H Q E) : (∃ n, vs = [.int n]) ∨ ∃ v, vs = [v] ∧ Odd H v ∧ E (Ex K "BadNumber") none H := by
  unfold sp_number_word at h
  split at h
  · exact .inl ⟨_, rfl⟩
  · exact .inr ⟨_, rfl, h⟩
  · exact h.elim
theorem len_number_word {K vs H Q E} (h : sp_number_word K vs H Q E) : vs.length = 1 := by unfold sp_number_word at h; split at h <;> first | rfl | exact h.elim
def sp_place_word (K : PySem.W.Frag) : Sp
  | [.int n], H, Q, E => if 0 ≤ n ∧ n ≤ 9999 then Q (.int (2 * n + 1)) H else E (Ex K "NoPlace") none H
  | [v], H, _, E => Odd H v ∧ E (Ex K "NoPlace") none H
  | _, _, _, _ => False
theorem odd_place_word {K : PySem.W.Frag} {H : Hp} {v : V} {Q : VK} {E : XK} (h : Odd H v) : sp_place_word K [v] H Q E = E (Ex K "NoPlace") none H := by
  cases v with
  | int n => exact (odd_not h).elim
  | _ => exact propext ⟨fun z => z.2, fun z => ⟨h, z⟩⟩
theorem one_place_word {K : PySem.W.Frag} {vs : List V} {H : Hp} {Q : VK} {E : XK} (h : sp_place_word K vs H Q E) : (∃ n, vs = [.int n]) ∨ ∃ v, vs = [v] ∧ Odd H v ∧ E (Ex K "NoPlace") none H := by
  unfold sp_place_word at h
  split at h
  · exact .inl ⟨_, rfl⟩
  · exact .inr ⟨_, rfl, h⟩
  · exact h.elim
theorem len_place_word {K vs H Q E} (h : sp_place_word K vs H Q E) : vs.length = 1 := by unfold sp_place_word at h; split at h <;> first | rfl | exact h.elim
def sp_kind (K : PySem.W.Frag) : Sp
  | [.int n], H, Q, E => match wordOf n with
    | some w => Q (.str w.kind) H
    | none => E (Ex K "BadWord") none H
  | [v], H, _, E => Odd H v ∧ E (Ex K "BadWord") none H
  | _, _, _, _ => False
theorem odd_kind {K : PySem.W.Frag} {H : Hp} {v : V} {Q : VK} {E : XK} (h : Odd H v) : sp_kind K [v] H Q E = E (Ex K "BadWord") none H := by
  cases v with
  | int n => exact (odd_not h).elim
  | _ => exact propext ⟨fun z => z.2, fun z => ⟨h, z⟩⟩
theorem one_kind {K : PySem.W.Frag} {vs : List V} {H : Hp} {Q : VK} {E : XK} (h : sp_kind K vs H Q E) : (∃ n, vs = [.int n]) ∨ ∃ v, vs = [v] ∧ Odd H v ∧ E (Ex K "BadWord") none H := by
  unfold sp_kind at h
  split at h
  · exact .inl ⟨_, rfl⟩
  · exact .inr ⟨_, rfl, h⟩
  · exact h.elim
theorem len_kind {K vs H Q E} (h : sp_kind K vs H Q E) : vs.length = 1 := by unfold sp_kind at h; split at h <;> first | rfl | exact h.elim
def sp_worth (K : PySem.W.Frag) : Sp
  | [.int n], H, Q, E => match wordOf n with
    | some w => Q w.worth H
    | none => E (Ex K "BadWord") none H
  | [v], H, _, E => Odd H v ∧ E (Ex K "BadWord") none H
  | _, _, _, _ => False
theorem odd_worth {K : PySem.W.Frag} {H : Hp} {v : V} {Q : VK} {E : XK} (h : Odd H v) : sp_worth K [v] H Q E = E (Ex K "BadWord") none H := by
  cases v with
  | int n => exact (odd_not h).elim
  | _ => exact propext ⟨fun z => z.2, fun z => ⟨h, z⟩⟩
theorem one_worth {K : PySem.W.Frag} {vs : List V} {H : Hp} {Q : VK} {E : XK} (h : sp_worth K vs H Q E) : (∃ n, vs = [.int n]) ∨ ∃ v, vs = [v] ∧ Odd H v ∧ E (Ex K "BadWord") none H := by
  unfold sp_worth at h
  split at h
  · exact .inl ⟨_, rfl⟩
  · exact .inr ⟨_, rfl, h⟩
  · exact h.elim
theorem len_worth {K vs H Q E} (h : sp_worth K vs H Q E) : vs.length = 1 := by unfold sp_worth at h; split at h <;> first | rfl | exact h.elim
section
variable {K : PySem.W.Frag} {H : Hp} {n : Int} {Q : VK} {E : XK}
theorem x_number_word : sp_number_word K [.int n] H Q E = if (n.natAbs : Int) ≤ 1000000000000 then Q (.int (2 * n)) H else E (Ex K "BadNumber") none H := rfl
theorem x_place_word : sp_place_word K [.int n] H Q E = if 0 ≤ n ∧ n ≤ 9999 then Q (.int (2 * n + 1)) H else E (Ex K "NoPlace") none H := rfl
theorem x_kind : sp_kind K [.int n] H Q E = match wordOf n with
    | some w => Q (.str w.kind) H
    | none => E (Ex K "BadWord") none H := rfl
theorem x_worth : sp_worth K [.int n] H Q E = match wordOf n with
    | some w => Q w.worth H
    | none => E (Ex K "BadWord") none H := rfl
end
theorem kind_if {A B C F : Prop} {n : Int} {f : Wd → Prop} (h1 : f .nothing = A) (h2 : f (.num (n / 2)) = B) (h3 : f (.place (n / 2)) = C) :
    (match wordOf n with
    | some w => f w
    | none => F) = if n = -1 then A else if n % 2 = 0 ∧ (n.natAbs : Int) ≤ 2000000000000 then B else if n % 2 = 1 ∧ 0 < n ∧ n ≤ 19999 then C else F := by
  unfold wordOf
  by_cases c1 : n = -1
  · rw [if_pos c1, if_pos c1]; exact h1
  · rw [if_neg c1, if_neg c1]
    by_cases c2 : n % 2 = 0 ∧ (n.natAbs : Int) ≤ 2000000000000
    · rw [if_pos c2, if_pos c2]; exact h2
    · rw [if_neg c2, if_neg c2]
      by_cases c3 : n % 2 = 1 ∧ 0 < n ∧ n ≤ 19999
      · rw [if_pos c3, if_pos c3]; exact h3
      · rw [if_neg c3, if_neg c3]
theorem kind_is (w : Wd) : (w.kind = "nothing" ↔ w = .nothing) ∧ (w.kind = "place" ↔ ∃ p, w = .place p) ∧ (w.kind = "number" ↔ ∃ n, w = .num n) := by
  have d1 : ("number" : Str) ≠ "nothing" := by decide +kernel
  have d2 : ("number" : Str) ≠ "place" := by decide +kernel
  have d3 : ("place" : Str) ≠ "nothing" := by decide +kernel
  cases w with
  | num n => exact ⟨⟨fun z => (d1 z).elim, fun z => by cases z⟩, ⟨fun z => (d2 z).elim, fun ⟨_, z⟩ => by cases z⟩, ⟨fun _ => ⟨n, rfl⟩, fun _ => rfl⟩⟩
  | place n => exact ⟨⟨fun z => (d3 z).elim, fun z => by cases z⟩, ⟨fun _ => ⟨n, rfl⟩, fun _ => rfl⟩, ⟨fun z => (d2 z.symm).elim, fun ⟨_, z⟩ => by cases z⟩⟩
  | nothing => exact ⟨⟨fun _ => rfl, fun _ => rfl⟩, ⟨fun z => (d3 z.symm).elim, fun ⟨_, z⟩ => by cases z⟩, ⟨fun z => (d1 z.symm).elim, fun ⟨_, z⟩ => by cases z⟩⟩
theorem wordOf_div {n : Int} {w : Wd} (h : wordOf n = some w) : w.worth = if w = .nothing then .non else .int (n / 2) := by
  unfold wordOf at h
  repeat' split at h
  all_goals (cases h; try rfl)
local macro_rules | `(tactic| walk_at "w") => `(tactic| try simp only [↓x_var0, ↓x_varS, ↓x_c, ↓x_op, ↓x_un, ↓x_cb, ↓x_nil, ↓x_cons, ↓x_test, ↓x_b, ↓x_ex, ↓x_and, ↓x_or, ↓x_not, ↓x_andV, ↓x_orV, ↓x_notV, ↓x_tif, ↓x_chain, ↓x_menu, ↓x_menuI, ↓x_lst, ↓x_tup, ↓x_dnew, ↓x_callW, ↓x_callN, ↓x_seq, ↓x_next, ↓x_ret, ↓x_retN, ↓x_drop, ↓x_ifS, ↓x_asg, ↓x_name, ↓x_raise, ↓x_fld, ↓x_setF, ↓x_meth, ↓x_make, ↓x_sub, ↓r_min, ↓r_max, ↓x_yes, ↓x_for, ↓x_lock, ↓x_keys, ↓x_cut, ↓x_lc, ↓x_rng1, ↓x_rng2, ↓x_lst1, ↓x_itup, ↓x_rng3, ↓x_three, ↓x_lstg, ↓x_tupg, ↓x_adrS, ↓x_one, ↓x_two, ↓x_adr, ↓x_sl, ↓x_np, ↓x_pt, ↓x_int, ↓x_bm, ↓x_bm0, ↓x_consg, ↓x_nilg, ↓x_dget2, ↓x_dget1, ↓x_dget, ↓x_din, ↓x_dni, ↓x_dput, ↓x_dpop2, ↓r_isB, ↓r_notB, ↓x_enum, ↓x_zip, ↓x_str, ↓x_strE, ↓r_inS, ↓r_ninS, wipe, List.map_cons, List.map_nil, ↓x_isT, ↓r_isiII, ↓r_isiBB, ↓r_isiIB, ↓r_isiSS, ↓r_neNS, ↓r_neSN, ↓r_neNN, ↓r_eqNS, ↓r_eqSN, ↓r_eqNN, ↓r_eqIS, ↓r_neIS, ↓r_neSI, ↓r_neBS, ↓r_eqBB, ↓r_neBB, ↓x_start, ↓x_K, ↓x_start0, ↓r_i0, ↓r_i, ↓r_u, ↓r_addI, ↓r_addS, ↓r_mulI, ↓r_mulS, ↓r_eqI, ↓r_neI, ↓r_eqS, ↓r_neS, ↓r_absI, ↓r_intI, ↓r_intB, List.length_cons, List.length_nil, List.replicate, List.set_cons_zero, List.set_cons_succ, decide_eq_true_eq, Bool.not_eq_true', decide_eq_false_iff_not, if_true, if_false, Bool.false_eq_true, Bool.true_eq_false, ite_true, ite_false, Bool.not_true, Bool.not_false, c_div, n_ten, c_pow, not_true_eq_false, not_false_eq_true, decide_true, decide_false, true_and, and_true, and_self, true_or, or_true, Int.reduceLT, Int.reduceLE, Int.reduceMul, Int.reduceAdd, Int.reduceSub, Int.reducePow, Int.reduceNeg, Int.reduceDiv, Int.reduceMod, Nat.reducePow, Int.reduceToNat, Int.reduceEq, Int.reduceNe, Nat.reduceLT, Nat.reduceLeDiff, Nat.reduceAdd, ↓x_whole])
section
variable {P : Program} {w : World} {K : PySem.W.Frag} {mg : Str → Option Value} {base : Heap}
theorem f_is_whole (T : Tx K mg) : Fn P w K mg base 1 "is_whole" ["thing"] (sp_is_whole) := by
  refine T.mkFn 1 21 (d := d_is_whole) (N := ["thing"]) (k := 0) rfl rfl rfl rfl rfl sc_is_whole (fun _ _ _ _ _ _ us hl => match us, hl with | [_], _ => rfl) (fun vs H Q E h => ?len) (fun cdv A outer s H vs Q E hr h => ⟨_,
      (pss_one (ps_ret (pe_and (pe_callB call_gIsi (by rfl) (T.free 58) (by decide +kernel) (pa_cons (pv 0) (pa_cons (pe_ty (T := "int") (T.free 66) (by decide +kernel) (by rfl)) pa_nil))) (pe_one (pe_not (pe_callB call_gIsi (by rfl) (T.free 58) (by decide +kernel) (pa_cons (pv 0) (pa_cons (pe_ty (T := "bool") (T.free 67) (by decide +kernel) (by rfl)) pa_nil)))))))), ?rd⟩)
  case len => first | exact len_is_whole h | (repeat (first | (obtain ⟨rfl, _⟩ := h; rfl; done) | obtain ⟨_, h⟩ := h))
  case rd =>
    obtain ⟨v, rfl⟩ : ∃ v, vs = [v] := by unfold sp_is_whole at h; split at h <;> first | exact ⟨_, rfl⟩ | exact h.elim
    walk_at "x"
    cases v with
    | int n => exact whole_int h
    | _ => exact whole_odd h.1 h.2
theorem f_number_word (T : Tx K mg) : Fn P w K mg base 2 "number_word" ["number"] (sp_number_word K) := by
  have c_is_whole := f_is_whole (P := P) (w := w) (base := base) T
  refine T.mkFn 2 22 (d := d_number_word) (N := ["number"]) (k := 1) rfl rfl rfl rfl rfl sc_number_word (fun _ _ _ _ _ _ us hl => match us, hl with | [_], _ => rfl) (fun vs H Q E h => ?len) (fun cdv A outer s H vs Q E hr h => ⟨_,
      (pss_cons (ps_if (PW.pt (pw_or (pt_not (pt_val (pe_fn (takes_of rfl rfl rfl rfl) c_is_whole (hr.mono (by decide)) (by rfl) (pa_cons (pv 0) pa_nil)))) (pw_or1 (pt_cmpR op_gt (pe_callB call_gAbs (by rfl) (T.free 60) (by decide +kernel) (pa_cons (pv 0) pa_nil)) (pe_num (T.num 47) (by rfl)) (nomark _))))) (pss_one (ps_raiseK (K := K) rfl rfl (takes_of rfl rfl rfl rfl) (T.says.fact 71 rfl) (T.glo 1) (by rfl))) pss_nil)
        (pss_one (ps_ret (pe_op op_gMul pe_int (pv 0))))), ?rd⟩)
  case len => first | exact len_number_word h | (repeat (first | (obtain ⟨rfl, _⟩ := h; rfl; done) | obtain ⟨_, h⟩ := h))
  case rd =>
    rcases one_number_word h with ⟨n, rfl⟩ | ⟨v, rfl, o, h⟩
    · walk_at "w"
      rw [x_number_word] at h
      ((repeat' split) <;> (repeat' split at h) <;> first | exact h | (exfalso; omega))
    · walk_at "x"
      rw [odd_whole o]
      walk_at "x"
      exact h
theorem f_place_word (T : Tx K mg) : Fn P w K mg base 2 "place_word" ["at"] (sp_place_word K) := by
  have c_is_whole := f_is_whole (P := P) (w := w) (base := base) T
  refine T.mkFn 3 23 (d := d_place_word) (N := ["at"]) (k := 1) rfl rfl rfl rfl rfl sc_place_word (fun _ _ _ _ _ _ us hl => match us, hl with | [_], _ => rfl) (fun vs H Q E h => ?len) (fun cdv A outer s H vs Q E hr h => ⟨_,
      (pss_cons (ps_if (PW.pt (pw_or (pt_not (pt_val (pe_fn (takes_of rfl rfl rfl rfl) c_is_whole (hr.mono (by decide)) (by rfl) (pa_cons (pv 0) pa_nil)))) (pw_or1 (pt_not (pt_chain op_le op_le pe_int (pv 0) (pe_num (T.num 48) (by rfl))))))) (pss_one (ps_raiseK (K := K) rfl rfl (takes_of rfl rfl rfl rfl) (T.says.fact 74 rfl) (T.glo 4) (by rfl))) pss_nil)
        (pss_one (ps_ret (pe_op op_gAdd (pe_op op_gMul pe_int (pv 0)) pe_int)))), ?rd⟩)
  case len => first | exact len_place_word h | (repeat (first | (obtain ⟨rfl, _⟩ := h; rfl; done) | obtain ⟨_, h⟩ := h))
  case rd =>
    rcases one_place_word h with ⟨n, rfl⟩ | ⟨v, rfl, o, h⟩
    · walk_at "w"
      rw [x_place_word] at h
      ((repeat' split) <;> (repeat' split at h) <;> first | exact h | (exfalso; omega))
    · walk_at "x"
      rw [odd_whole o]
      walk_at "x"
      exact h
theorem f_kind (T : Tx K mg) : Fn P w K mg base 2 "kind" ["word"] (sp_kind K) := by
  have c_is_whole := f_is_whole (P := P) (w := w) (base := base) T
  refine T.mkFn 4 24 (d := d_kind) (N := ["word"]) (k := 1) rfl rfl rfl rfl rfl sc_kind (fun _ _ _ _ _ _ us hl => match us, hl with | [_], _ => rfl) (fun vs H Q E h => ?len) (fun cdv A outer s H vs Q E hr h => ⟨_,
      (pss_cons (ps_if (pt_not (pt_val (pe_fn (takes_of rfl rfl rfl rfl) c_is_whole (hr.mono (by decide)) (by rfl) (pa_cons (pv 0) pa_nil)))) (pss_one (ps_raiseK (K := K) rfl rfl (takes_of rfl rfl rfl rfl) (T.says.fact 72 rfl) (T.glo 2) (by rfl))) pss_nil)
        (pss_cons (ps_if (pt_cmpR (op_eqK (K := K) rfl hr.units) (pv 0) (pe_num (T.num 49) (by rfl)) (nomark _)) (pss_one (ps_ret pe_str)) pss_nil)
        (pss_cons (ps_if (PW.pt (pw_and (pt_cmpR (op_eqK (K := K) rfl hr.units) (pe_op op_mod (pv 0) pe_int) pe_int (nomark _)) (pw_and1 (pt_cmpR op_le (pe_callB call_gAbs (by rfl) (T.free 60) (by decide +kernel) (pa_cons (pv 0) pa_nil)) (pe_op op_gMul pe_int (pe_num (T.num 47) (by rfl))) (nomark _))))) (pss_one (ps_ret pe_str)) pss_nil)
        (pss_cons (ps_if (PW.pt (pw_and (pt_cmpR (op_eqK (K := K) rfl hr.units) (pe_op op_mod (pv 0) pe_int) pe_int (nomark _)) (pw_and1 (pt_chain op_lt op_le pe_int (pv 0) (pe_op op_gAdd (pe_op op_gMul pe_int (pe_num (T.num 48) (by rfl))) pe_int))))) (pss_one (ps_ret pe_str)) pss_nil)
        (pss_one (ps_raiseK (K := K) rfl rfl (takes_of rfl rfl rfl rfl) (T.says.fact 72 rfl) (T.glo 2) (by rfl))))))), ?rd⟩)
  case len => first | exact len_kind h | (repeat (first | (obtain ⟨rfl, _⟩ := h; rfl; done) | obtain ⟨_, h⟩ := h))
  case rd =>
    rcases one_kind h with ⟨n, rfl⟩ | ⟨v, rfl, o, h⟩
    · walk_at "w"
      rw [x_kind, kind_if rfl rfl rfl] at h
      ((repeat' split) <;> (repeat' split at h) <;> first | exact h | (exfalso; omega))
    · walk_at "x"
      rw [odd_whole o]
      walk_at "x"
      exact h
local macro_rules | `(tactic| walk_at "w2") => `(tactic| try simp only [↓x_var0, ↓x_varS, ↓x_c, ↓x_op, ↓x_un, ↓x_cb, ↓x_nil, ↓x_cons, ↓x_test, ↓x_b, ↓x_ex, ↓x_and, ↓x_or, ↓x_not, ↓x_andV, ↓x_orV, ↓x_notV, ↓x_tif, ↓x_chain, ↓x_menu, ↓x_menuI, ↓x_lst, ↓x_tup, ↓x_dnew, ↓x_callW, ↓x_callN, ↓x_seq, ↓x_next, ↓x_ret, ↓x_retN, ↓x_drop, ↓x_ifS, ↓x_asg, ↓x_name, ↓x_raise, ↓x_fld, ↓x_setF, ↓x_meth, ↓x_make, ↓x_sub, ↓r_min, ↓r_max, ↓x_yes, ↓x_for, ↓x_lock, ↓x_keys, ↓x_cut, ↓x_lc, ↓x_rng1, ↓x_rng2, ↓x_lst1, ↓x_itup, ↓x_rng3, ↓x_three, ↓x_lstg, ↓x_tupg, ↓x_adrS, ↓x_one, ↓x_two, ↓x_adr, ↓x_sl, ↓x_np, ↓x_pt, ↓x_int, ↓x_bm, ↓x_bm0, ↓x_consg, ↓x_nilg, ↓x_dget2, ↓x_dget1, ↓x_dget, ↓x_din, ↓x_dni, ↓x_dput, ↓x_dpop2, ↓r_isB, ↓r_notB, ↓x_enum, ↓x_zip, ↓x_str, ↓x_strE, ↓r_inS, ↓r_ninS, wipe, List.map_cons, List.map_nil, ↓x_isT, ↓r_isiII, ↓r_isiBB, ↓r_isiIB, ↓r_isiSS, ↓r_neNS, ↓r_neSN, ↓r_neNN, ↓r_eqNS, ↓r_eqSN, ↓r_eqNN, ↓r_eqIS, ↓r_neIS, ↓r_neSI, ↓r_neBS, ↓r_eqBB, ↓r_neBB, ↓x_start, ↓x_K, ↓x_start0, ↓r_i0, ↓r_i, ↓r_u, ↓r_addI, ↓r_addS, ↓r_mulI, ↓r_mulS, ↓r_eqI, ↓r_neI, ↓r_eqS, ↓r_neS, ↓r_absI, ↓r_intI, ↓r_intB, List.length_cons, List.length_nil, List.replicate, List.set_cons_zero, List.set_cons_succ, decide_eq_true_eq, Bool.not_eq_true', decide_eq_false_iff_not, if_true, if_false, Bool.false_eq_true, Bool.true_eq_false, ite_true, ite_false, Bool.not_true, Bool.not_false, c_div, n_ten, c_pow, not_true_eq_false, not_false_eq_true, decide_true, decide_false, true_and, and_true, and_self, true_or, or_true, Int.reduceLT, Int.reduceLE, Int.reduceMul, Int.reduceAdd, Int.reduceSub, Int.reducePow, Int.reduceNeg, Int.reduceDiv, Int.reduceMod, Nat.reducePow, Int.reduceToNat, Int.reduceEq, Int.reduceNe, Nat.reduceLT, Nat.reduceLeDiff, Nat.reduceAdd, ↓x_whole, ↓x_kind])
theorem f_worth (T : Tx K mg) : Fn P w K mg base 3 "worth" ["word"] (sp_worth K) := by
  have c_kind := f_kind (P := P) (w := w) (base := base) T
  refine T.mkFn 5 25 (d := d_worth) (N := ["word"]) (k := 2) rfl rfl rfl rfl rfl sc_worth (fun _ _ _ _ _ _ us hl => match us, hl with | [_], _ => rfl) (fun vs H Q E h => ?len) (fun cdv A outer s H vs Q E hr h => ⟨_,
      (pss_cons (ps_if (pt_cmpR (op_eqK (K := K) rfl hr.units) (pe_fn (takes_of rfl rfl rfl rfl) c_kind (hr.mono (by decide)) (by rfl) (pa_cons (pv 0) pa_nil)) pe_str (nomark _)) (pss_one (ps_ret pe_non)) pss_nil)
        (pss_one (ps_ret (pe_op op_fdiv (pv 0) pe_int)))), ?rd⟩)
  case len => first | exact len_worth h | (repeat (first | (obtain ⟨rfl, _⟩ := h; rfl; done) | obtain ⟨_, h⟩ := h))
  case rd =>
    rcases one_worth h with ⟨n, rfl⟩ | ⟨v, rfl, o, h⟩
    · walk_at "w2"
      rw [x_worth] at h
      cases e : wordOf n with
      | none => rw [e] at h; exact h
      | some w =>
        rw [e] at h
        replace h : Q w.worth H := h
        walk_at "w2"
        rw [wordOf_div e] at h
        simp only [(kind_is w).1]
        split
        · rename_i c
          rw [if_pos c] at h
          exact h
        · rename_i c
          rw [if_neg c] at h
          exact h
    · walk_at "x"
      rw [odd_kind o]
      exact h
end
def Vw (ws : List Int) : Prop := ∀ w ∈ ws, (wordOf w).isSome = true
theorem Vw.get {ws : List Int} (h : Vw ws) {i : Nat} (hi : i < ws.length) : ∃ w, wordOf (ws.getD i 0) = some w := by
  have m := List.mem_of_getElem? (getD_at (d := 0) hi)
  exact Option.isSome_iff_exists.mp (h _ m)
theorem Vw.set {ws : List Int} (h : Vw ws) {i : Nat} {n : Int} (hn : (wordOf n).isSome = true) : Vw (ws.set i n) := fun w m => by
  rcases List.mem_or_eq_of_mem_set m with m | rfl
  · exact h w m
  · exact hn
theorem Vw.rep {n : Nat} : Vw (List.replicate n (-1)) := fun w m => by
  rw [(List.mem_replicate.mp m).2]
  rfl
theorem k_nn : (Wd.nothing.kind = ("number" : Str)) = False := eq_false (show ¬ ("nothing" : Str) = "number" by decide +kernel)
theorem k_pn {p : Int} : ((Wd.place p).kind = ("number" : Str)) = False := eq_false (show ¬ ("place" : Str) = "number" by decide +kernel)
theorem k_Nn {n : Int} : ((Wd.num n).kind = ("number" : Str)) = True := eq_true (show ("number" : Str) = "number" from rfl)
theorem k_np : (Wd.nothing.kind = ("place" : Str)) = False := eq_false (show ¬ ("nothing" : Str) = "place" by decide +kernel)
theorem k_Np {n : Int} : ((Wd.num n).kind = ("place" : Str)) = False := eq_false (show ¬ ("number" : Str) = "place" by decide +kernel)
theorem k_pp {p : Int} : ((Wd.place p).kind = ("place" : Str)) = True := eq_true (show ("place" : Str) = "place" from rfl)
theorem word_num {n : Int} (h : (n.natAbs : Int) ≤ 1000000000000) : wordOf (2 * n) = some (.num n) := by
  unfold wordOf
  rw [if_neg (by omega), if_pos (by omega)]
  congr 2
  omega
theorem word_place {n : Int} (h0 : 0 ≤ n) (h1 : n ≤ 9999) : wordOf (2 * n + 1) = some (.place n) := by
  unfold wordOf
  rw [if_neg (by omega), if_neg (by omega), if_pos (by omega)]
  congr 2
  omega
def wordV : V → Option Int
  | .int n => if (wordOf n).isSome then some n else none
  | _ => none
theorem wordV_int {n : Int} : wordV (.int n) = if (wordOf n).isSome then some n else none := rfl
theorem wordV_odd {H : Hp} {v : V} (h : Odd H v) : wordV v = none := by
  cases v with
  | int i => exact (odd_not h).elim
  | _ => rfl
theorem wordV_some {v : V} {n : Int} (h : wordV v = some n) : v = .int n ∧ ∃ w, wordOf n = some w := by
  cases v with
  | int j =>
    rw [wordV_int] at h
    split at h
    · rename_i c
      cases h
      exact ⟨rfl, Option.isSome_iff_exists.mp c⟩
    · cases h
  | _ => cases h
theorem wordV_none {n : Int} (h : wordV (.int n) = none) : wordOf n = none := by
  rw [wordV_int] at h
  split at h
  · cases h
  · rename_i c
    cases e : wordOf n with
    | none => rfl
    | some w => rw [e] at c; exact absurd rfl c
local macro_rules | `(tactic| walk_at "w2") => `(tactic| try simp only [↓x_var0, ↓x_varS, ↓x_c, ↓x_op, ↓x_un, ↓x_cb, ↓x_nil, ↓x_cons, ↓x_test, ↓x_b, ↓x_ex, ↓x_and, ↓x_or, ↓x_not, ↓x_andV, ↓x_orV, ↓x_notV, ↓x_tif, ↓x_chain, ↓x_menu, ↓x_menuI, ↓x_lst, ↓x_tup, ↓x_dnew, ↓x_callW, ↓x_callN, ↓x_seq, ↓x_next, ↓x_ret, ↓x_retN, ↓x_drop, ↓x_ifS, ↓x_asg, ↓x_name, ↓x_raise, ↓x_fld, ↓x_setF, ↓x_meth, ↓x_make, ↓x_sub, ↓r_min, ↓r_max, ↓x_yes, ↓x_for, ↓x_lock, ↓x_keys, ↓x_cut, ↓x_lc, ↓x_rng1, ↓x_rng2, ↓x_lst1, ↓x_itup, ↓x_rng3, ↓x_three, ↓x_lstg, ↓x_tupg, ↓x_adrS, ↓x_one, ↓x_two, ↓x_adr, ↓x_sl, ↓x_np, ↓x_pt, ↓x_int, ↓x_bm, ↓x_bm0, ↓x_consg, ↓x_nilg, ↓x_dget2, ↓x_dget1, ↓x_dget, ↓x_din, ↓x_dni, ↓x_dput, ↓x_dpop2, ↓r_isB, ↓r_notB, ↓x_enum, ↓x_zip, ↓x_str, ↓x_strE, ↓r_inS, ↓r_ninS, wipe, List.map_cons, List.map_nil, ↓x_isT, ↓r_isiII, ↓r_isiBB, ↓r_isiIB, ↓r_isiSS, ↓r_neNS, ↓r_neSN, ↓r_neNN, ↓r_eqNS, ↓r_eqSN, ↓r_eqNN, ↓r_eqIS, ↓r_neIS, ↓r_neSI, ↓r_neBS, ↓r_eqBB, ↓r_neBB, ↓x_start, ↓x_K, ↓x_start0, ↓r_i0, ↓r_i, ↓r_u, ↓r_addI, ↓r_addS, ↓r_mulI, ↓r_mulS, ↓r_eqI, ↓r_neI, ↓r_eqS, ↓r_neS, ↓r_absI, ↓r_intI, ↓r_intB, List.length_cons, List.length_nil, List.replicate, List.set_cons_zero, List.set_cons_succ, decide_eq_true_eq, Bool.not_eq_true', decide_eq_false_iff_not, if_true, if_false, Bool.false_eq_true, Bool.true_eq_false, ite_true, ite_false, Bool.not_true, Bool.not_false, c_div, n_ten, c_pow, not_true_eq_false, not_false_eq_true, decide_true, decide_false, true_and, and_true, and_self, true_or, or_true, Int.reduceLT, Int.reduceLE, Int.reduceMul, Int.reduceAdd, Int.reduceSub, Int.reducePow, Int.reduceNeg, Int.reduceDiv, Int.reduceMod, Nat.reducePow, Int.reduceToNat, Int.reduceEq, Int.reduceNe, Nat.reduceLT, Nat.reduceLeDiff, Nat.reduceAdd, ↓x_whole, ↓x_kind])

/-! ## the script's cells, lists that are read -/
def cell (ns : List Int) (j : Int) : Int := ns.getD j.toNat 0
theorem same_new {H : Hp} {p : Addr} {o : HO} (h : H p = none) : Same H (upd H p o) := fun b u e => by
  rw [upd_ne (ne_of_none e h)]
  exact e
theorem ite_and {P Q A B : Prop} [Decidable P] [Decidable Q] (h1 : P → Q → A) (h2 : ¬ (P ∧ Q) → B) : if P then (if Q then A else B) else B := by
  split
  · split
    · exact h1 ‹_› ‹_›
    · exact h2 fun z => absurd z.2 ‹_›
  · exact h2 fun z => absurd z.1 ‹_›
theorem ite_or {P Q A B : Prop} [Decidable P] [Decidable Q] (h1 : P ∨ Q → A) (h2 : ¬ P → ¬ Q → B) : if P then A else if Q then A else B := by
  split
  · exact h1 (.inl ‹_›)
  · split
    · exact h1 (.inr ‹_›)
    · exact h2 ‹_› ‹_›
/-- a new instance; its first deed -/
theorem same_mk {H : Hp} {x dx C : Addr} (nx : H x = none) (ndx : H dx = none) (ne : dx ≠ x) : Same H (upd (upd H dx (.own x)) x (.ins C dx [])) := (same_new ndx).trans (same_new (by rw [upd_ne ne.symm]; exact nx))
theorem same_init {H H' : Hp} {x dx C : Addr} (nx : H x = none) (ndx : H dx = none) (ne : dx ≠ x) (k : ∀ c o, c ≠ x → upd (upd H dx (.own x)) x (.ins C dx []) c = some o → H' c = some o) : Same H H' := fun c o e => k c o (ne_of_none e nx) (same_mk nx ndx ne c o e)
theorem cut_ints (ns : List Int) (lo hi : Option Int) : ∃ cs : List Int, cutV (ns.map V.int) lo hi = cs.map V.int := ⟨(ns.drop (HT.sIx ns.length 0 lo)).take (HT.sIx ns.length ns.length hi - HT.sIx ns.length 0 lo), by unfold cutV; rw [List.length_map, List.map_take, List.map_drop]⟩
def placeOf (n : Nat) : V → Option Nat
  | .int i => if 0 ≤ i ∧ i < n then some i.toNat else none
  | _ => none
theorem placeOf_int {n : Nat} {i : Int} : placeOf n (.int i) = if 0 ≤ i ∧ i < n then some i.toNat else none := rfl
theorem placeOf_odd {H : Hp} {n : Nat} {v : V} (h : Odd H v) : placeOf n v = none := by
  cases v with
  | int i => exact (odd_not h).elim
  | _ => rfl
theorem placeOf_some {n : Nat} {v : V} {i : Nat} (h : placeOf n v = some i) : v = .int (i : Int) ∧ i < n := by
  cases v with
  | int j =>
    rw [placeOf_int] at h
    split at h
    · rename_i c
      have e := Option.some.inj h
      exact ⟨by rw [← e]; congr 1; omega, by omega⟩
    · cases h
  | _ => cases h
def placeW : V → Option Int
  | .int n => if 0 ≤ n ∧ n ≤ 9999 then some n else none
  | _ => none
theorem placeW_int {n : Int} : placeW (.int n) = if 0 ≤ n ∧ n ≤ 9999 then some n else none := rfl
theorem placeW_odd {H : Hp} {v : V} (h : Odd H v) : placeW v = none := by
  cases v with
  | int i => exact (odd_not h).elim
  | _ => rfl
theorem placeW_some {v : V} {n : Int} (h : placeW v = some n) : v = .int n ∧ 0 ≤ n ∧ n ≤ 9999 := by
  cases v with
  | int j =>
    rw [placeW_int] at h
    split at h
    · rename_i c
      cases h
      exact ⟨rfl, c⟩
    · cases h
  | _ => cases h
theorem all_flat {ws : List Int} : (ws.map V.int).all flatV = true := by
  rw [List.all_map]
  exact List.all_eq_true.mpr fun _ _ => rfl
theorem in_ints {n : Int} {ws : List Int} : inV (.int n) (ws.map V.int) = decide (n ∈ ws) := by
  unfold inV
  rw [List.any_map]
  by_cases c : n ∈ ws
  · rw [decide_eq_true c]
    exact List.any_eq_true.mpr ⟨n, c, beq_self_eq_true n⟩
  · rw [decide_eq_false c]
    refine List.any_eq_false.mpr fun x hx e => c ?_
    have e2 : x = n := eq_of_beq e
    exact e2 ▸ hx
theorem none_of {H H' : Hp} {a : Addr} (s : Same H H') (h : H' a = none) : H a = none := by
  cases e : H a with
  | none => rfl
  | some o =>
    rw [s a o e] at h
    cases h
/-- a list that grows -/
theorem r_app {K : PySem.W.Frag} {H : Hp} {l : Addr} {xs : List V} {y : V} {Q : VK} (h : H l = some (.lst xs)) (hn : xs.length < sizeLine) (q : Q .non (upd H l (.lst (xs ++ [y])))) : tyV K "list" (.ref l) H ∧ rAppend (.ref l) [y] H Q := ⟨.inl ⟨rfl, _, .of h⟩, l, xs, y, rfl, rfl, h, hn, q⟩
theorem ty_lst {K : PySem.W.Frag} {H : Hp} {l : Addr} {xs : List V} (h : H l = some (.lst xs)) : tyV K "list" (.ref l) H := .inl ⟨rfl, _, .of h⟩
theorem same_tyOf {H H' : Hp} {v : V} {t : String} (s : Same H H') (h : tyOf v H = some t) : tyOf v H' = some t := by
  cases v with
  | ref a =>
    have h1 : tyO (H a) = some t := h
    cases e : H a with
    | none =>
      rw [e] at h1
      cases h1
    | some o =>
      rw [e] at h1
      show tyO (H' a) = some t
      rw [s a o e]
      exact h1
  | _ => exact h
theorem odd_same {H H' : Hp} {v : V} (s : Same H H') (h : Odd H v) : Odd H' v := h.elim fun t q => ⟨t, same_tyOf s q.1, q.2⟩
def Thing (H : Hp) (v : V) : Prop := (∃ n, v = .int n) ∨ Odd H v
theorem thing_same {H H' : Hp} {v : V} (s : Same H H') (h : Thing H v) : Thing H' v := h.imp id (odd_same s)
theorem thing_upd {H : Hp} {a : Addr} {o o' : HO} {v : V} (e : H a = some o) (q : tyO (some o) = tyO (some o')) (h : Thing H v) : Thing (upd H a o') v := h.imp id fun ⟨t, g, ne⟩ => ⟨t, by
  cases v with
  | ref b =>
    have h1 : tyO (H b) = some t := g
    show tyO (upd H a o' b) = some t
    by_cases c : b = a
    · subst c
      rw [upd_same, ← q, ← e]
      exact h1
    · rw [upd_ne c]
      exact h1
  | _ => exact g, ne⟩
theorem r_lenS {K : PySem.W.Frag} {H : Hp} {a : Addr} {xs : List V} {Q : VK} (h : SqL K H a xs) (q : Q (.int (xs.length : Int)) H) : L2.rLen K [.ref a] H Q := ⟨_, _, rfl, .inl ⟨_, h, rfl⟩, q⟩
theorem r_ixS {K : PySem.W.Frag} {H : Hp} {a : Addr} {xs : List V} {i : Int} {v : V} {Q : VK} (h : SqL K H a xs) (e : atI xs i = some v) (q : Q v H) : rIx K (.ref a) (.int i) H Q := .inl ⟨_, _, _, _, rfl, rfl, h, e, q⟩
theorem at_pos {α : Type} {xs : List α} {i : Int} {v : α} (h : 0 ≤ i) (e : xs[i.toNat]? = some v) : atI xs i = some v := by
  have hl := (List.getElem?_eq_some_iff.mp e).1
  unfold atI ixN
  rw [if_pos h, if_pos (by omega)]
  exact e
theorem menu_pick {xs : List V} {i : Int} {P : V → Prop} (Good : V → Prop) (h : ∃ v, atI xs i = some v ∧ Good v) (k : ∀ v, Good v → P v) : ∃ v, atI xs i = some v ∧ P v := h.elim fun v q => ⟨v, q.1, k v q.2⟩
theorem cut_int {ns : List Int} {lo hi : Option Int} {i : Nat} {x : V} (h : (cutV (ns.map V.int) lo hi)[i]? = some x) : ∃ c, x = .int c := by
  have m := List.mem_of_getElem? h
  unfold cutV at m
  have m2 := List.mem_of_mem_drop (List.mem_of_mem_take m)
  obtain ⟨c, -, e⟩ := List.mem_map.mp m2
  exact ⟨c, e.symm⟩
theorem sIx_pos {n d : Nat} {v : Int} (h : 0 ≤ v) : HT.sIx n d (some v) = min v.toNat n := by
  show (if v < 0 then (v + (n : Int)).toNat else min v.toNat n) = _
  rw [if_neg (by omega)]
theorem cut_len {xs : List V} {a b : Int} (h0 : 0 ≤ a) (h1 : a ≤ b) : (cutV xs (some a) (some b)).length ≤ (b - a).toNat := by
  unfold cutV
  rw [List.length_take, List.length_drop]
  rw [sIx_pos h0, sIx_pos (by omega)]
  omega
def sp_cell (K : PySem.W.Frag) : Sp := fun vs H Q _ => ∃ a j ns, vs = [.ref a, .int j] ∧ SqL K H a (ns.map V.int) ∧ 0 ≤ j ∧ Q (.int (cell ns j)) H
section
variable {P : Program} {w : World} {K : PySem.W.Frag} {mg : Str → Option Value} {base : Heap}
end

section
variable {P : Program} {w : World} {K : PySem.W.Frag} {mg : Str → Option Value} {base : Heap}
theorem f__law_draw (T : Tx K mg) : Fn P w K mg base 1 "_law_draw" ["_law_script", "_law_k"] (sp_cell K) := by
  refine T.mkFn 76 40 (d := d__law_draw) (N := ["_law_script", "_law_k"]) (k := 0) rfl rfl rfl rfl rfl sc__law_draw (fun _ _ _ _ _ _ us hl => match us, hl with | [_, _], _ => rfl) (fun vs H Q E h => ?len) (fun cdv A outer s H vs Q E hr h => ⟨_,
      (pss_one (ps_ret (pe_ifExp (pt_cmpR op_gt (pe_callB (call_lenK (K := K) rfl) (by rfl) (T.free 59) PySem.boot_len (pa_cons (pv 0) pa_nil)) (pv 1) (nomark _)) (pe_ix (ix_seqK (K := K) rfl) (pv 0) (pv 1) (fun _ _ => rfl)) pe_int))), ?rd⟩)
  case len => obtain ⟨a, j, ns, rfl, _⟩ := h; rfl
  case rd =>
    obtain ⟨a, j, ns, rfl, hS, h0, q⟩ := h
    walk_at "x"
    refine r_lenS hS ?_
    walk_at "x"
    rw [List.length_map]
    unfold cell at q
    split
    · walk_at "x"
      refine r_ixS hS (at_pos h0 (v := .int (ns.getD j.toNat 0)) ?_) q
      rw [List.getElem?_map, List.getElem?_eq_getElem (by omega), List.getD_eq_getElem?_getD, List.getElem?_eq_getElem (by omega)]
      rfl
    · walk_at "x"
      have e : ns.getD j.toNat 0 = 0 := by
        rw [List.getD_eq_getElem?_getD, List.getElem?_eq_none (by omega)]
        rfl
      rw [e] at q
      exact q
end


/-! ## memories -/
structure MemO (K : PySem.W.Frag) (H : Hp) (m dx l : Addr) (ws : List Int) : Prop where
  ob : H m = some (.ins (He.ga K "Memory") dx (F_Memory (.int ws.length) (.ref l)))
  ls : H l = some (.lst (ws.map V.int))
  sz : ws.length ≤ 4000
theorem MemO.ne {K H m dx l ws} (h : MemO K H m dx l ws) : l ≠ m := ne_of h.ls h.ob (by intro z; cases z)
theorem MemO.same {K H H' m dx l ws} (h : MemO K H m dx l ws) (s : Same H H') : MemO K H' m dx l ws := ⟨s _ _ h.ob, s _ _ h.ls, h.sz⟩
theorem MemO.put {K H m dx l ws} (h : MemO K H m dx l ws) (vs : List Int) (e : vs.length = ws.length) : MemO K (upd H l (.lst (vs.map V.int))) m dx l vs :=
  ⟨by rw [upd_ne h.ne.symm, e]; exact h.ob, upd_same, by rw [e]; exact h.sz⟩
def sizeV : V → Option Nat
  | .int n => if 1 ≤ n ∧ n ≤ 4000 then some n.toNat else none
  | _ => none
theorem sizeV_int {n : Int} : sizeV (.int n) = if 1 ≤ n ∧ n ≤ 4000 then some n.toNat else none := rfl
theorem sizeV_odd {H : Hp} {v : V} (h : Odd H v) : sizeV v = none := by
  cases v with
  | int i => exact (odd_not h).elim
  | _ => rfl
def sp_Memory_need (K : PySem.W.Frag) : Sp := fun vs H Q E => ∃ m dx l ws v, vs = [.ref m, v] ∧ MemO K H m dx l ws ∧ Thing H v ∧ match placeOf ws.length v with
  | some _ => Q .non H
  | none => E (Ex K "NoPlace") none H
def sp_Memory_read (K : PySem.W.Frag) : Sp := fun vs H Q E => ∃ m dx l ws v, vs = [.ref m, v] ∧ MemO K H m dx l ws ∧ Thing H v ∧ match placeOf ws.length v with
  | some i => Q (.int (ws.getD i 0)) H
  | none => E (Ex K "NoPlace") none H
def sp_Memory_write (K : PySem.W.Frag) : Sp := fun vs H Q E => ∃ m dx l ws v z, vs = [.ref m, v, z] ∧ MemO K H m dx l ws ∧ Thing H v ∧ Thing H z ∧ match placeOf ws.length v with
  | some i => (match wordV z with
    | some n => Q .non (upd H l (.lst ((ws.set i n).map V.int)))
    | none => E (Ex K "BadWord") none H)
  | none => E (Ex K "NoPlace") none H
def sp_Memory___init__ (K : PySem.W.Frag) : Sp := fun vs H Q E => ∃ m dx v, vs = [.ref m, v] ∧ H m = some (.ins (He.ga K "Memory") dx []) ∧ Thing H v ∧ match sizeV v with
  | some n => ∀ l H', H l = none → MemO K H' m dx l (List.replicate n (-1)) → (∀ b o, b ≠ m → H b = some o → H' b = some o) → Q .non H'
  | none => E (Ex K "BadCount") none H
section
variable {P : Program} {w : World} {K : PySem.W.Frag} {mg : Str → Option Value} {base : Heap}
theorem f_Memory_need (T : Tx K mg) : Mt P w K mg base 2 "Memory" "need" ["self", "at"] (sp_Memory_need K) := by
  have c_is_whole := f_is_whole (P := P) (w := w) (base := base) T
  refine T.mkMt 21 83 81 (d := d_Memory_need) (N := ["self", "at"]) (k := 1) rfl rfl rfl rfl rfl rfl sc_Memory_need (fun _ _ _ _ _ _ us hl => match us, hl with | [_, _], _ => rfl) (fun vs H Q E h => ?len) (fun cdv A outer s H vs Q E hr h => ⟨_,
      (pss_one (ps_if (PW.pt (pw_or (pt_not (pt_val (pe_fn (takes_of rfl rfl rfl rfl) c_is_whole (hr.mono (by decide)) (by rfl) (pa_cons (pv 1) pa_nil)))) (pw_or1 (pt_not (pt_chain op_le op_lt pe_int (pv 1) (pe_fldC (T.cls 81) (T.noat 88) (pv 0))))))) (pss_one (ps_raiseK (K := K) rfl rfl (takes_of rfl rfl rfl rfl) (T.says.fact 74 rfl) (T.glo 4) (by rfl))) pss_nil)), ?rd⟩)
  case len => obtain ⟨m, dx, l, ws, v, rfl, _⟩ := h; rfl
  case rd =>
    obtain ⟨m, dx, l, ws, v, rfl, M, th, h⟩ := h
    walk_at "w2"
    rcases th with ⟨n, rfl⟩ | o
    · walk_at "w2"
      rw [placeOf_int] at h
      split
      · refine ⟨_, fldIs M.ob, ?_⟩
        walk_at "w2"
        split
        · rw [if_neg (by omega)] at h
          exact h
        · rw [if_pos (by omega)] at h
          exact h
      · rw [if_neg (by omega)] at h
        exact h
    · rw [odd_whole o]
      rw [placeOf_odd o] at h
      walk_at "w2"
      exact h
theorem f_Memory_read (T : Tx K mg) : Mt P w K mg base 3 "Memory" "read" ["self", "at"] (sp_Memory_read K) := by
  have c_Memory_need := f_Memory_need (P := P) (w := w) (base := base) T
  refine T.mkMt 22 84 81 (d := d_Memory_read) (N := ["self", "at"]) (k := 2) rfl rfl rfl rfl rfl rfl sc_Memory_read (fun _ _ _ _ _ _ us hl => match us, hl with | [_, _], _ => rfl) (fun vs H Q E h => ?len) (fun cdv A outer s H vs Q E hr h => ⟨_,
      (pss_cons (ps_expr (pe_mt (K := K) rfl (takes_of rfl rfl rfl rfl) (pv 0) c_Memory_need (hr.mono (by decide)) (pa_cons (pv 1) pa_nil)))
        (pss_one (ps_ret (pe_ix (ix_seqK (K := K) rfl) (pe_fldC (T.cls 81) (T.noat 89) (pv 0)) (pv 1) (fun _ _ => rfl))))), ?rd⟩)
  case len => obtain ⟨m, dx, l, ws, v, rfl, _⟩ := h; rfl
  case rd =>
    obtain ⟨m, dx, l, ws, v, rfl, M, th, h⟩ := h
    walk_at "w2"
    refine ⟨recv M.ob, m, dx, l, ws, v, rfl, M, th, ?_⟩
    cases e : placeOf ws.length v with
    | none =>
      rw [e] at h
      exact h
    | some i =>
      rw [e] at h
      obtain ⟨rfl, hi⟩ := placeOf_some e
      refine ⟨_, fldIs M.ob, ?_⟩
      refine r_ixS (.of M.ls) (at_pos (by omega) (v := .int (ws.getD i 0)) ?_) h
      rw [List.getElem?_map, Int.toNat_natCast, List.getElem?_eq_getElem hi, List.getD_eq_getElem?_getD, List.getElem?_eq_getElem hi]
      rfl
theorem f_Memory_write (T : Tx K mg) : Mt P w K mg base 3 "Memory" "write" ["self", "at", "word"] (sp_Memory_write K) := by
  have c_Memory_need := f_Memory_need (P := P) (w := w) (base := base) T
  have c_kind := f_kind (P := P) (w := w) (base := base) T
  refine T.mkMt 23 85 81 (d := d_Memory_write) (N := ["self", "at", "word"]) (k := 2) rfl rfl rfl rfl rfl rfl sc_Memory_write (fun _ _ _ _ _ _ us hl => match us, hl with | [_, _, _], _ => rfl) (fun vs H Q E h => ?len) (fun cdv A outer s H vs Q E hr h => ⟨_,
      (pss_cons (ps_expr (pe_mt (K := K) rfl (takes_of rfl rfl rfl rfl) (pv 0) c_Memory_need (hr.mono (by decide)) (pa_cons (pv 1) pa_nil)))
        (pss_cons (ps_expr (pe_fn (takes_of rfl rfl rfl rfl) c_kind (hr.mono (by decide)) (by rfl) (pa_cons (pv 2) pa_nil)))
        (pss_one (ps_asg (pv 2) (pg_sub (pe_fldC (T.cls 81) (T.noat 89) (pv 0)) (pv 1) set_list))))), ?rd⟩)
  case len => obtain ⟨m, dx, l, ws, v, z, rfl, _⟩ := h; rfl
  case rd =>
    obtain ⟨m, dx, l, ws, v, z, rfl, M, th, tz, h⟩ := h
    walk_at "w2"
    refine ⟨recv M.ob, m, dx, l, ws, v, rfl, M, th, ?_⟩
    cases e : placeOf ws.length v with
    | none =>
      rw [e] at h
      exact h
    | some i =>
      rw [e] at h
      obtain ⟨rfl, hi⟩ := placeOf_some e
      walk_at "w2"
      rcases tz with ⟨n, rfl⟩ | o
      · rw [x_kind]
        cases ew : wordOf n with
        | none =>
          have e2 : wordV (.int n) = none := by rw [wordV_int, ew]; rfl
          rw [e2] at h
          exact h
        | some w =>
          have e2 : wordV (.int n) = some n := by rw [wordV_int, ew]; rfl
          rw [e2] at h
          refine ⟨_, fldIs M.ob, ?_⟩
          refine r_setL M.ls (by omega) (by rw [List.length_map]; omega) ?_
          rw [Int.toNat_natCast, ← List.map_set]
          exact h
      · rw [odd_kind o]
        rw [wordV_odd o] at h
        exact h
theorem f_Memory___init__ (T : Tx K mg) : Mi P w K mg base 2 "Memory" ["self", "size"] (sp_Memory___init__ K) := by
  have c_is_whole := f_is_whole (P := P) (w := w) (base := base) T
  refine T.mkMi 20 82 11 (d := d_Memory___init__) (N := ["self", "size", "at"]) (k := 1) rfl rfl rfl rfl rfl rfl sc_Memory___init__ (fun _ _ _ _ _ _ us hl => match us, hl with | [_, _], _ => rfl) (fun vs H Q E h => ?len) (fun cdv A outer s H vs Q E hr h => ⟨_,
      (pss_cons (ps_if (PW.pt (pw_or (pt_not (pt_val (pe_fn (takes_of rfl rfl rfl rfl) c_is_whole (hr.mono (by decide)) (by rfl) (pa_cons (pv 1) pa_nil)))) (pw_or1 (pt_not (pt_chain op_le op_le pe_int (pv 1) (pe_num (T.num 52) (by rfl))))))) (pss_one (ps_raiseK (K := K) rfl rfl (takes_of rfl rfl rfl rfl) (T.says.fact 73 rfl) (T.glo 3) (by rfl))) pss_nil)
        (pss_cons (ps_fldC (T.cls 81) (T.noat 88) (pv 0) (pv 1))
        (pss_one (ps_fldC (T.cls 81) (T.noat 89) (pv 0) (pe_lc (own := [("at", 2)]) (g := gName 2) rfl sc_Memory___init__.nd (pi_range1 rfl (T.free 61) (pa_cons (pv 1) pa_nil)) (blkOk_by (own := [("at", 2)]) (N := ["self", "size", "at"]) (sc := defScope s_Memory___init__) (by decide +kernel)) (fun _ _ _ _ _ => (pg_name (i := 2) sc_Memory___init__.nd rfl (Or.inl rfl))) (fun _ _ _ _ _ => pts_nil) (fun _ _ _ _ _ => (pe_num (T.num 49) (by rfl)))))))), ?rd⟩)
  case len => obtain ⟨m, dx, v, rfl, _⟩ := h; rfl
  case rd =>
    obtain ⟨m, dx, v, rfl, M, th, h⟩ := h
    walk_at "w2"
    rcases th with ⟨n, rfl⟩ | o
    · walk_at "w2"
      rw [sizeV_int] at h
      split
      · split
        · rw [if_neg (by omega)] at h
          exact h
        · rw [if_pos (by omega)] at h
          refine ⟨m, dx, _, rfl, M, by decide, ?_⟩
          rw [pi_Memory_size]
          walk_at "w2"
          refine ⟨by omega, by omega, fun D hD => lc_mapR (fun _ => .int (-1)) (fun _ => rfl) (by rw [sizeLine_eq]; omega) (fun i hi acc Q q => ?_) ?_⟩
          · walk_at "w2"
            exact q
          · have nD : m ≠ D := ne_of_none upd_same hD
            have hD0 : H D = none := by rw [upd_ne nD.symm] at hD; exact hD
            refine ⟨m, dx, _, rfl, by rw [upd_ne nD, upd_same], by show 1 < 1000; decide, ?_⟩
            rw [pi_Memory_words]
            have er : (List.range n.toNat).map (fun _ => V.int (-1)) = (List.replicate n.toNat (-1 : Int)).map V.int := by rw [List.map_replicate, List.map_const', List.length_range]
            rw [er]
            refine h D _ hD0 ⟨?_, ?_, by rw [List.length_replicate]; omega⟩ fun b o hb e => ?_
            · rw [upd_same, List.length_replicate, Int.toNat_of_nonneg (by omega)]
            · rw [upd_ne nD.symm, upd_same]
            · rw [upd_ne hb, upd_ne (ne_of_none e hD0), upd_ne hb]
              exact e
      · rw [if_neg (by omega)] at h
        exact h
    · rw [odd_whole o]
      rw [sizeV_odd o] at h
      walk_at "w2"
      exact h
end
def stretchOf (n : Nat) (k : Int) : V → Option Nat
  | .int i => if 0 ≤ i ∧ i + k ≤ n then some i.toNat else none
  | _ => none
theorem stretchOf_int {n : Nat} {k i : Int} : stretchOf n k (.int i) = if 0 ≤ i ∧ i + k ≤ n then some i.toNat else none := rfl
theorem stretchOf_odd {H : Hp} {n : Nat} {k : Int} {v : V} (h : Odd H v) : stretchOf n k v = none := by
  cases v with
  | int i => exact (odd_not h).elim
  | _ => rfl
theorem stretchOf_some {n : Nat} {k : Int} {v : V} {i : Nat} (h : stretchOf n k v = some i) : v = .int (i : Int) ∧ (i : Int) + k ≤ n := by
  cases v with
  | int j =>
    rw [stretchOf_int] at h
    split at h
    · rename_i c
      have e := Option.some.inj h
      exact ⟨by rw [← e]; congr 1; omega, by omega⟩
    · cases h
  | _ => cases h
inductive Cp where
  | count | place | ok (i j k : Nat)
def cpOf (n : Nat) (a b : V) : V → Cp
  | .int k => if 0 ≤ k then (match stretchOf n k a with
    | some i => (match stretchOf n k b with
      | some j => .ok i j k.toNat
      | none => .place)
    | none => .place) else .count
  | _ => .count
theorem cpOf_odd {H : Hp} {n : Nat} {a b v : V} (h : Odd H v) : cpOf n a b v = .count := by
  cases v with
  | int i => exact (odd_not h).elim
  | _ => rfl
theorem cpOf_int {n : Nat} {a b : V} {k : Int} : cpOf n a b (.int k) = if 0 ≤ k then (match stretchOf n k a with
    | some i => (match stretchOf n k b with
      | some j => .ok i j k.toNat
      | none => .place)
    | none => .place) else .count := rfl
/-- t words of ws from i on, laid from j on -/
def cpT (ws : List Int) (i j t : Nat) : List Int := (List.range t).foldl (fun a u => a.set (j + u) (ws.getD (i + u) 0)) ws
theorem cpT_zero {ws : List Int} {i j : Nat} : cpT ws i j 0 = ws := rfl
theorem cpT_succ {ws : List Int} {i j t : Nat} : cpT ws i j (t + 1) = (cpT ws i j t).set (j + t) (ws.getD (i + t) 0) := by
  unfold cpT
  rw [List.range_succ, List.foldl_append]
  rfl
theorem cpT_len {ws : List Int} {i j t : Nat} : (cpT ws i j t).length = ws.length := by
  induction t with
  | zero => rfl
  | succ t ih => rw [cpT_succ, List.length_set, ih]
theorem cut_get {ws : List Int} {i k t : Nat} (h : i + k ≤ ws.length) (ht : t < k) : (cutV (ws.map V.int) (some (i : Int)) (some ((i : Int) + (k : Int))))[t]? = some (.int (ws.getD (i + t) 0)) := by
  unfold cutV
  rw [sIx_pos (by omega), sIx_pos (by omega), List.getElem?_take, if_pos (by rw [List.length_map]; omega), List.getElem?_drop, List.getElem?_map, List.getD_eq_getElem?_getD]
  have e3 : min (i : Int).toNat (ws.map V.int).length + t = i + t := by rw [List.length_map]; omega
  rw [e3, List.getElem?_eq_getElem (by omega)]
  rfl
def sp_Memory_need_stretch (K : PySem.W.Frag) : Sp := fun vs H Q E => ∃ m dx l ws v k, vs = [.ref m, v, .int k] ∧ MemO K H m dx l ws ∧ Thing H v ∧ match stretchOf ws.length k v with
  | some _ => Q .non H
  | none => E (Ex K "NoPlace") none H
def sp_Memory_copy (K : PySem.W.Frag) : Sp := fun vs H Q E => ∃ m dx l ws v1 v2 z, vs = [.ref m, v1, v2, z] ∧ MemO K H m dx l ws ∧ Thing H v1 ∧ Thing H v2 ∧ Thing H z ∧ match cpOf ws.length v1 v2 z with
  | .count => E (Ex K "BadCount") none H
  | .place => E (Ex K "NoPlace") none H
  | .ok i j k => ∀ H', MemO K H' m dx l (cpT ws i j k) → (∀ b o, b ≠ l → H b = some o → H' b = some o) → (∀ v, Thing H v → Thing H' v) → Q .non H'
section
variable {P : Program} {w : World} {K : PySem.W.Frag} {mg : Str → Option Value} {base : Heap}
end

local macro_rules | `(tactic| walk_at "w2") => `(tactic| try simp only [↓x_var0, ↓x_varS, ↓x_c, ↓x_op, ↓x_un, ↓x_cb, ↓x_nil, ↓x_cons, ↓x_test, ↓x_b, ↓x_ex, ↓x_and, ↓x_or, ↓x_not, ↓x_andV, ↓x_orV, ↓x_notV, ↓x_tif, ↓x_chain, ↓x_menu, ↓x_menuI, ↓x_lst, ↓x_tup, ↓x_dnew, ↓x_callW, ↓x_callN, ↓x_seq, ↓x_next, ↓x_ret, ↓x_retN, ↓x_drop, ↓x_ifS, ↓x_asg, ↓x_name, ↓x_raise, ↓x_fld, ↓x_setF, ↓x_meth, ↓x_make, ↓x_sub, ↓r_min, ↓r_max, ↓x_yes, ↓x_for, ↓x_lock, ↓x_keys, ↓x_cut, ↓x_lc, ↓x_rng1, ↓x_rng2, ↓x_lst1, ↓x_itup, ↓x_rng3, ↓x_three, ↓x_lstg, ↓x_tupg, ↓x_adrS, ↓x_one, ↓x_two, ↓x_adr, ↓x_sl, ↓x_np, ↓x_pt, ↓x_int, ↓x_bm, ↓x_bm0, ↓x_consg, ↓x_nilg, ↓x_dget2, ↓x_dget1, ↓x_dget, ↓x_din, ↓x_dni, ↓x_dput, ↓x_dpop2, ↓r_isB, ↓r_notB, ↓x_enum, ↓x_zip, ↓x_str, ↓x_strE, ↓r_inS, ↓r_ninS, wipe, List.map_cons, List.map_nil, ↓x_isT, ↓r_isiII, ↓r_isiBB, ↓r_isiIB, ↓r_isiSS, ↓r_neNS, ↓r_neSN, ↓r_neNN, ↓r_eqNS, ↓r_eqSN, ↓r_eqNN, ↓r_eqIS, ↓r_neIS, ↓r_neSI, ↓r_neBS, ↓r_eqBB, ↓r_neBB, ↓x_start, ↓x_K, ↓x_start0, ↓r_i0, ↓r_i, ↓r_u, ↓r_addI, ↓r_addS, ↓r_mulI, ↓r_mulS, ↓r_eqI, ↓r_neI, ↓r_eqS, ↓r_neS, ↓r_absI, ↓r_intI, ↓r_intB, List.length_cons, List.length_nil, List.replicate, List.set_cons_zero, List.set_cons_succ, decide_eq_true_eq, Bool.not_eq_true', decide_eq_false_iff_not, if_true, if_false, Bool.false_eq_true, Bool.true_eq_false, ite_true, ite_false, Bool.not_true, Bool.not_false, c_div, n_ten, c_pow, not_true_eq_false, not_false_eq_true, decide_true, decide_false, true_and, and_true, and_self, true_or, or_true, Int.reduceLT, Int.reduceLE, Int.reduceMul, Int.reduceAdd, Int.reduceSub, Int.reducePow, Int.reduceNeg, Int.reduceDiv, Int.reduceMod, Nat.reducePow, Int.reduceToNat, Int.reduceEq, Int.reduceNe, Nat.reduceLT, Nat.reduceLeDiff, Nat.reduceAdd, ↓x_whole, ↓x_kind])
/-! ## cells in a memory -/
/-- what head_of finds at a thing: no place, no cell, or the place and the head -/
inductive Hd where
  | noPlace | noCell | ok (i : Nat) (h : Nat)
def headAt (w : Int) : Option Nat := match wordOf w with
  | some (.num n) => if 0 ≤ n ∧ n ≤ 34 ∧ n % 4 ≤ 2 then some n.toNat else none
  | _ => none
def headW (ws : List Int) (v : V) : Hd := match placeOf ws.length v with
  | none => .noPlace
  | some i => match headAt (ws.getD i 0) with
    | none => .noCell
    | some h => .ok i h
theorem headAt_some {w : Int} {h : Nat} (e : headAt w = some h) : w = 2 * (h : Int) ∧ h ≤ 34 ∧ h % 4 ≤ 2 := by
  unfold headAt at e
  split at e
  · rename_i n en
    split at e
    · rename_i c
      have e := Option.some.inj e
      have hw : w = 2 * n := by
        unfold wordOf at en
        split at en
        · cases en
        · split at en
          · have := Wd.num.inj (Option.some.inj en)
            omega
          · split at en
            · cases en
            · cases en
      omega
    · cases e
  · cases e
theorem head_ok {ws : List Int} {v : V} {i h : Nat} (e : headW ws v = .ok i h) : v = .int (i : Int) ∧ i < ws.length ∧ headAt (ws.getD i 0) = some h := by
  unfold headW at e
  cases e1 : placeOf ws.length v with
  | none => rw [e1] at e; cases e
  | some j =>
    rw [e1] at e
    obtain ⟨a, b⟩ := placeOf_some e1
    have e : (match headAt (ws.getD j 0) with
      | none => Hd.noCell
      | some h => .ok j h) = .ok i h := e
    cases e2 : headAt (ws.getD j 0) with
    | none => rw [e2] at e; cases e
    | some h' =>
      rw [e2] at e
      cases e
      exact ⟨a, b, e2⟩
theorem ans_head' {ws : List Int} {i k : Nat} (hi : i < ws.length) (e : headAt (ws.getD i 0) = some k) : headW ws (.int (i : Int)) = .ok i k := by
  unfold headW
  rw [placeOf_int, if_pos ⟨by omega, by omega⟩, Int.toNat_natCast]
  dsimp only
  rw [e]
def slotsW : V → Option Nat
  | .int n => if 0 ≤ n ∧ n ≤ 8 then some n.toNat else none
  | _ => none
theorem slotsW_int {n : Int} : slotsW (.int n) = if 0 ≤ n ∧ n ≤ 8 then some n.toNat else none := rfl
theorem slotsW_odd {H : Hp} {v : V} (h : Odd H v) : slotsW v = none := by
  cases v with
  | int i => exact (odd_not h).elim
  | _ => rfl
theorem slotsW_some {v : V} {s : Nat} (h : slotsW v = some s) : v = .int (s : Int) ∧ s ≤ 8 := by
  cases v with
  | int j =>
    rw [slotsW_int] at h
    split at h
    · rename_i c
      have e := Option.some.inj h
      exact ⟨by rw [← e]; congr 1; omega, by omega⟩
    · cases h
  | _ => cases h
def ageW : V → Option Nat
  | .int n => if 0 ≤ n ∧ n ≤ 2 then some n.toNat else none
  | _ => none
theorem ageW_int {n : Int} : ageW (.int n) = if 0 ≤ n ∧ n ≤ 2 then some n.toNat else none := rfl
theorem ageW_odd {H : Hp} {v : V} (h : Odd H v) : ageW v = none := by
  cases v with
  | int i => exact (odd_not h).elim
  | _ => rfl
/-- t slots of a cell at i emptied -/
def layT (ws : List Int) (i s t : Nat) : List Int := (List.range t).foldl (fun a u => a.set (i + 1 + u) (-1)) (ws.set i (8 * (s : Int)))
theorem layT_succ {ws : List Int} {i s t : Nat} : layT ws i s (t + 1) = (layT ws i s t).set (i + 1 + t) (-1) := by
  unfold layT
  rw [List.range_succ, List.foldl_append]
  rfl
theorem layT_len {ws : List Int} {i s t : Nat} : (layT ws i s t).length = ws.length := by
  induction t with
  | zero => exact List.length_set ..
  | succ t ih => rw [layT_succ, List.length_set, ih]
theorem layT_vw {ws : List Int} (h : Vw ws) {i s t : Nat} (hs : s ≤ 8) : Vw (layT ws i s t) := by
  induction t with
  | zero =>
    have e : (8 * (s : Int)) = 2 * (4 * (s : Int)) := by omega
    exact h.set (by rw [e, word_num (by omega)]; rfl)
  | succ t ih =>
    rw [layT_succ]
    exact ih.set rfl
def Fit (ws : List Int) : Prop := ∀ i h : Nat, i < ws.length → headAt (ws.getD i 0) = some h → i + h / 4 < ws.length
theorem getD_set {ws : List Int} {i j : Nat} {n : Int} (hi : i < ws.length) : (ws.set i n).getD j 0 = if i = j then n else ws.getD j 0 := by
  rw [List.getD_eq_getElem?_getD, List.getElem?_set, List.getD_eq_getElem?_getD]
  split
  · rename_i e
    subst e
    first | rfl | (rw [if_pos hi]; rfl)
  · rfl
theorem Fit.set {ws : List Int} (f : Fit ws) {i : Nat} {n : Int} (hi : i < ws.length) (hn : ∀ h, headAt n = some h → i + h / 4 < ws.length) : Fit (ws.set i n) := fun j h hj e => by
  rw [List.length_set] at hj ⊢
  rw [getD_set hi] at e
  split at e
  · rename_i c
    subst c
    exact hn h e
  · exact f j h hj e
theorem head_none1 : headAt (-1) = none := rfl
theorem Fit.lay {ws : List Int} (f : Fit ws) {i s : Nat} (hi : i + s < ws.length) : ∀ t, t ≤ s → Fit (layT ws i s t)
  | 0, _ => f.set (by omega) fun h e => by
    have := (headAt_some e).1
    omega
  | t + 1, ht => by
    rw [layT_succ]
    have ll := layT_len (ws := ws) (i := i) (s := s) (t := t)
    refine (Fit.lay f hi t (by omega)).set (by omega) fun h e => ?_
    rw [head_none1] at e
    cases e
theorem Fit.rep {n : Nat} : Fit (List.replicate n (-1)) := fun i h hi e => by
  rw [List.length_replicate] at hi
  have : (List.replicate n (-1 : Int)).getD i 0 = -1 := by
    rw [List.getD_eq_getElem?_getD, List.getElem?_replicate, if_pos hi]
    rfl
  rw [this, head_none1] at e
  cases e
/-- the places in the slots of a cell at i -/
def kidsT (ws : List Int) (i t : Nat) : List Int := (List.range t).filterMap fun u => match wordOf (ws.getD (i + 1 + u) 0) with
  | some (.place p) => some p
  | _ => none
theorem kidsT_succ {ws : List Int} {i t : Nat} : kidsT ws i (t + 1) = kidsT ws i t ++ (match wordOf (ws.getD (i + 1 + t) 0) with
  | some (.place p) => [p]
  | _ => []) := by
  unfold kidsT
  rw [List.range_succ, List.filterMap_append]
  congr 1
  rw [List.filterMap_cons, List.filterMap_nil]
  cases e : wordOf (ws.getD (i + 1 + t) 0) with
  | none => rfl
  | some w => cases w <;> rfl
theorem kidsT_len {ws : List Int} {i t : Nat} : (kidsT ws i t).length ≤ t := by
  have := List.length_filterMap_le (fun u => match wordOf (ws.getD (i + 1 + u) 0) with
    | some (.place p) => some p
    | _ => none) (List.range t)
  rw [List.length_range] at this
  exact this
def sp_need_slots (K : PySem.W.Frag) : Sp := fun vs H Q E => ∃ v, vs = [v] ∧ Thing H v ∧ match slotsW v with
  | some _ => Q .non H
  | none => E (Ex K "BadCount") none H
def sp_head_of (K : PySem.W.Frag) : Sp := fun vs H Q E => ∃ m dx l ws v, vs = [.ref m, v] ∧ MemO K H m dx l ws ∧ Vw ws ∧ Thing H v ∧ match headW ws v with
  | .noPlace => E (Ex K "NoPlace") none H
  | .noCell => E (Ex K "NoCell") none H
  | .ok _ h => Q (.int h) H
def sp_slots_of (K : PySem.W.Frag) : Sp := fun vs H Q E => ∃ m dx l ws v, vs = [.ref m, v] ∧ MemO K H m dx l ws ∧ Vw ws ∧ Thing H v ∧ match headW ws v with
  | .noPlace => E (Ex K "NoPlace") none H
  | .noCell => E (Ex K "NoCell") none H
  | .ok _ h => Q (.int ((h / 4 : Nat) : Int)) H
def sp_age_of (K : PySem.W.Frag) : Sp := fun vs H Q E => ∃ m dx l ws v, vs = [.ref m, v] ∧ MemO K H m dx l ws ∧ Vw ws ∧ Thing H v ∧ match headW ws v with
  | .noPlace => E (Ex K "NoPlace") none H
  | .noCell => E (Ex K "NoCell") none H
  | .ok _ h => Q (.int ((h % 4 : Nat) : Int)) H
def sp_words_of (K : PySem.W.Frag) : Sp := fun vs H Q E => ∃ m dx l ws v, vs = [.ref m, v] ∧ MemO K H m dx l ws ∧ Vw ws ∧ Thing H v ∧ match headW ws v with
  | .noPlace => E (Ex K "NoPlace") none H
  | .noCell => E (Ex K "NoCell") none H
  | .ok _ h => Q (.int ((h / 4 + 1 : Nat) : Int)) H
def sp_aged (K : PySem.W.Frag) : Sp := fun vs H Q E => ∃ m dx l ws v z, vs = [.ref m, v, z] ∧ MemO K H m dx l ws ∧ Vw ws ∧ Thing H v ∧ Thing H z ∧ match headW ws v with
  | .noPlace => E (Ex K "NoPlace") none H
  | .noCell => E (Ex K "NoCell") none H
  | .ok i h => match ageW z with
    | none => E (Ex K "BadCount") none H
    | some a => Q .non (upd H l (.lst ((ws.set i (2 * ((4 * (h / 4) + a : Nat) : Int))).map V.int)))
def sp_slot_place (K : PySem.W.Frag) : Sp := fun vs H Q E => ∃ m dx l ws v z, vs = [.ref m, v, z] ∧ MemO K H m dx l ws ∧ Vw ws ∧ Thing H v ∧ Thing H z ∧ match headW ws v with
  | .noPlace => E (Ex K "NoPlace") none H
  | .noCell => E (Ex K "NoCell") none H
  | .ok i h => match placeOf (h / 4) z with
    | none => E (Ex K "NoSlot") none H
    | some s => Q (.int ((i + 1 + s : Nat) : Int)) H
def sp_children (K : PySem.W.Frag) : Sp := fun vs H Q E => ∃ m dx l ws v, vs = [.ref m, v] ∧ MemO K H m dx l ws ∧ Vw ws ∧ Thing H v ∧ match headW ws v with
  | .noPlace => ∀ H', Same H H' → E (Ex K "NoPlace") none H'
  | .noCell => ∀ H', Same H H' → E (Ex K "NoCell") none H'
  | .ok i h => i + h / 4 < ws.length ∧ ∀ p H', H p = none → Same H H' → H' p = some (.lst ((kidsT ws i (h / 4)).map V.int)) → Q (.ref p) H'
def sp_send (K : PySem.W.Frag) : Sp := fun vs H Q E => ∃ m dx l ws v z, vs = [.ref m, v, z] ∧ MemO K H m dx l ws ∧ Vw ws ∧ Thing H v ∧ Thing H z ∧ match headW ws v with
  | .noPlace => E (Ex K "NoPlace") none H
  | .noCell => E (Ex K "NoCell") none H
  | .ok i _ => match placeW z with
    | none => E (Ex K "NoPlace") none H
    | some g => Q .non (upd H l (.lst ((ws.set i (2 * g + 1)).map V.int)))
def sp_sent_to (K : PySem.W.Frag) : Sp := fun vs H Q E => ∃ m dx l ws v, vs = [.ref m, v] ∧ MemO K H m dx l ws ∧ Vw ws ∧ Thing H v ∧ match placeOf ws.length v with
  | none => E (Ex K "NoPlace") none H
  | some i => match wordOf (ws.getD i 0) with
    | some (.place p) => Q (.int p) H
    | _ => match headAt (ws.getD i 0) with
      | none => E (Ex K "NoCell") none H
      | some _ => Q .non H
def sp_lay (K : PySem.W.Frag) : Sp := fun vs H Q E => ∃ m dx l ws v z, vs = [.ref m, v, z] ∧ MemO K H m dx l ws ∧ Thing H v ∧ Thing H z ∧ match slotsW z with
  | none => E (Ex K "BadCount") none H
  | some s => match placeOf (ws.length - s) v with
    | none => E (Ex K "NoPlace") none H
    | some i => ∀ H', MemO K H' m dx l (layT ws i s s) → (∀ b o, b ≠ l → H b = some o → H' b = some o) → Q .non H'
section
variable {P : Program} {w : World} {K : PySem.W.Frag} {mg : Str → Option Value} {base : Heap}
theorem f_need_slots (T : Tx K mg) : Fn P w K mg base 2 "need_slots" ["slots"] (sp_need_slots K) := by
  have c_is_whole := f_is_whole (P := P) (w := w) (base := base) T
  refine T.mkFn 6 26 (d := d_need_slots) (N := ["slots"]) (k := 1) rfl rfl rfl rfl rfl sc_need_slots (fun _ _ _ _ _ _ us hl => match us, hl with | [_], _ => rfl) (fun vs H Q E h => ?len) (fun cdv A outer s H vs Q E hr h => ⟨_,
      (pss_one (ps_if (PW.pt (pw_or (pt_not (pt_val (pe_fn (takes_of rfl rfl rfl rfl) c_is_whole (hr.mono (by decide)) (by rfl) (pa_cons (pv 0) pa_nil)))) (pw_or1 (pt_not (pt_chain op_le op_le pe_int (pv 0) (pe_num (T.num 50) (by rfl))))))) (pss_one (ps_raiseK (K := K) rfl rfl (takes_of rfl rfl rfl rfl) (T.says.fact 73 rfl) (T.glo 3) (by rfl))) pss_nil)), ?rd⟩)
  case len => obtain ⟨v, rfl, _⟩ := h; rfl
  case rd =>
    obtain ⟨v, rfl, th, h⟩ := h
    walk_at "w2"
    rcases th with ⟨n, rfl⟩ | o
    · walk_at "w2"
      rw [slotsW_int] at h
      split
      · split
        · rw [if_neg (by omega)] at h
          exact h
        · rw [if_pos (by omega)] at h
          exact h
      · rw [if_neg (by omega)] at h
        exact h
    · rw [odd_whole o]
      rw [slotsW_odd o] at h
      walk_at "w2"
      exact h
theorem f_head_of (T : Tx K mg) : Fn P w K mg base 4 "head_of" ["memory", "at"] (sp_head_of K) := by
  have c_Memory_read := f_Memory_read (P := P) (w := w) (base := base) T
  have c_worth := f_worth (P := P) (w := w) (base := base) T
  have c_kind := f_kind (P := P) (w := w) (base := base) T
  refine T.mkFn 8 28 (d := d_head_of) (N := ["memory", "at", "word"]) (k := 3) rfl rfl rfl rfl rfl sc_head_of (fun _ _ _ _ _ _ us hl => match us, hl with | [_, _], _ => rfl) (fun vs H Q E h => ?len) (fun cdv A outer s H vs Q E hr h => ⟨_,
      (pss_cons (ps_set (i := 2) sc_head_of.nd rfl (Or.inl rfl) (pe_mt (K := K) rfl (takes_of rfl rfl rfl rfl) (pv 0) c_Memory_read (hr.mono (by decide)) (pa_cons (pv 1) pa_nil)))
        (pss_cons (ps_if (PW.pt (pw_or (pt_cmpR (op_neK (K := K) rfl hr.units) (pe_fn (takes_of rfl rfl rfl rfl) c_kind (hr.mono (by decide)) (by rfl) (pa_cons (pv 2) pa_nil)) pe_str (nomark _)) (pw_or (pt_not (pt_chain op_le op_le pe_int (pe_fn (takes_of rfl rfl rfl rfl) c_worth (hr.mono (by decide)) (by rfl) (pa_cons (pv 2) pa_nil)) (pe_op op_gAdd (pe_op op_gMul pe_int (pe_num (T.num 50) (by rfl))) (pe_num (T.num 51) (by rfl))))) (pw_or1 (pt_cmpR op_gt (pe_op op_mod (pe_fn (takes_of rfl rfl rfl rfl) c_worth (hr.mono (by decide)) (by rfl) (pa_cons (pv 2) pa_nil)) pe_int) (pe_num (T.num 51) (by rfl)) (nomark _)))))) (pss_one (ps_raiseK (K := K) rfl rfl (takes_of rfl rfl rfl rfl) (T.says.fact 77 rfl) (T.glo 7) (by rfl))) pss_nil)
        (pss_one (ps_ret (pe_fn (takes_of rfl rfl rfl rfl) c_worth (hr.mono (by decide)) (by rfl) (pa_cons (pv 2) pa_nil)))))), ?rd⟩)
  case len => obtain ⟨m, dx, l, ws, v, rfl, _⟩ := h; rfl
  case rd =>
    obtain ⟨m, dx, l, ws, v, rfl, M, vw, th, h⟩ := h
    walk_at "w2"
    refine ⟨recv M.ob, m, dx, l, ws, v, rfl, M, th, ?_⟩
    unfold headW at h
    cases e : placeOf ws.length v with
    | none =>
      rw [e] at h
      exact h
    | some i =>
      rw [e] at h
      obtain ⟨rfl, hi⟩ := placeOf_some e
      obtain ⟨w, ew⟩ := vw.get hi
      walk_at "w2"
      have h : (match headAt (ws.getD i 0) with
        | none => E (Ex K "NoCell") none H
        | some h => Q (.int (h : Int)) H) := by
        cases eh : headAt (ws.getD i 0) with
        | none =>
          have h : (match (match headAt (ws.getD i 0) with
            | none => Hd.noCell
            | some h => .ok i h) with
            | .noPlace => E (Ex K "NoPlace") none H
            | .noCell => E (Ex K "NoCell") none H
            | .ok _ h => Q (.int (h : Int)) H) := h
          rw [eh] at h
          exact h
        | some k =>
          have h : (match (match headAt (ws.getD i 0) with
            | none => Hd.noCell
            | some h => .ok i h) with
            | .noPlace => E (Ex K "NoPlace") none H
            | .noCell => E (Ex K "NoCell") none H
            | .ok _ h => Q (.int (h : Int)) H) := h
          rw [eh] at h
          exact h
      unfold headAt at h
      generalize ws.getD i 0 = z at ew h
      simp only [x_worth]
      rw [ew] at h ⊢
      dsimp only at h ⊢
      cases w with
      | nothing =>
        simp only [k_nn, k_pn, k_Nn, k_np, k_Np, k_pp, not_true_eq_false, not_false_eq_true, if_true, if_false, ite_true, ite_false, Wd.worth]
        exact h
      | place p =>
        simp only [k_nn, k_pn, k_Nn, k_np, k_Np, k_pp, not_true_eq_false, not_false_eq_true, if_true, if_false, ite_true, ite_false, Wd.worth]
        exact h
      | num n =>
        simp only [k_nn, k_pn, k_Nn, k_np, k_Np, k_pp, not_true_eq_false, not_false_eq_true, if_true, if_false, ite_true, ite_false, Wd.worth]
        have h : (match (if 0 ≤ n ∧ n ≤ 34 ∧ n % 4 ≤ 2 then some n.toNat else none) with
          | none => E (Ex K "NoCell") none H
          | some h => Q (.int (h : Int)) H) := h
        walk_at "w2"
        split
        · split
          · rw [if_neg (by omega)] at h
            exact h
          · split
            · rw [if_neg (by omega)] at h
              exact h
            · rw [if_pos (by omega)] at h
              have e : ((n.toNat : Nat) : Int) = n := Int.toNat_of_nonneg (by omega)
              have h : Q (.int ((n.toNat : Nat) : Int)) H := h
              rw [e] at h
              exact h
        · rw [if_neg (by omega)] at h
          exact h
theorem f_slots_of (T : Tx K mg) : Fn P w K mg base 5 "slots_of" ["memory", "at"] (sp_slots_of K) := by
  have c_head_of := f_head_of (P := P) (w := w) (base := base) T
  refine T.mkFn 9 29 (d := d_slots_of) (N := ["memory", "at"]) (k := 4) rfl rfl rfl rfl rfl sc_slots_of (fun _ _ _ _ _ _ us hl => match us, hl with | [_, _], _ => rfl) (fun vs H Q E h => ?len) (fun cdv A outer s H vs Q E hr h => ⟨_,
      (pss_one (ps_ret (pe_op op_fdiv (pe_fn (takes_of rfl rfl rfl rfl) c_head_of (hr.mono (by decide)) (by rfl) (pa_cons (pv 0) (pa_cons (pv 1) pa_nil))) pe_int))), ?rd⟩)
  case len => obtain ⟨m, dx, l, ws, v, rfl, _⟩ := h; rfl
  case rd =>
    obtain ⟨m, dx, l, ws, v, rfl, M, vw, th, h⟩ := h
    walk_at "w2"
    refine ⟨m, dx, l, ws, v, rfl, M, vw, th, ?_⟩
    cases e : headW ws v with
    | noPlace =>
      rw [e] at h
      exact h
    | noCell =>
      rw [e] at h
      exact h
    | ok i k =>
      rw [e] at h
      walk_at "w2"
      have e2 : (k : Int) / 4 = ((k / 4 : Nat) : Int) := by omega
      rw [e2]
      exact h
theorem f_age_of (T : Tx K mg) : Fn P w K mg base 5 "age_of" ["memory", "at"] (sp_age_of K) := by
  have c_head_of := f_head_of (P := P) (w := w) (base := base) T
  refine T.mkFn 10 30 (d := d_age_of) (N := ["memory", "at"]) (k := 4) rfl rfl rfl rfl rfl sc_age_of (fun _ _ _ _ _ _ us hl => match us, hl with | [_, _], _ => rfl) (fun vs H Q E h => ?len) (fun cdv A outer s H vs Q E hr h => ⟨_,
      (pss_one (ps_ret (pe_op op_mod (pe_fn (takes_of rfl rfl rfl rfl) c_head_of (hr.mono (by decide)) (by rfl) (pa_cons (pv 0) (pa_cons (pv 1) pa_nil))) pe_int))), ?rd⟩)
  case len => obtain ⟨m, dx, l, ws, v, rfl, _⟩ := h; rfl
  case rd =>
    obtain ⟨m, dx, l, ws, v, rfl, M, vw, th, h⟩ := h
    walk_at "w2"
    refine ⟨m, dx, l, ws, v, rfl, M, vw, th, ?_⟩
    cases e : headW ws v with
    | noPlace =>
      rw [e] at h
      exact h
    | noCell =>
      rw [e] at h
      exact h
    | ok i k =>
      rw [e] at h
      walk_at "w2"
      have e2 : (k : Int) % 4 = ((k % 4 : Nat) : Int) := by omega
      rw [e2]
      exact h
theorem f_words_of (T : Tx K mg) : Fn P w K mg base 6 "words_of" ["memory", "at"] (sp_words_of K) := by
  have c_slots_of := f_slots_of (P := P) (w := w) (base := base) T
  refine T.mkFn 11 31 (d := d_words_of) (N := ["memory", "at"]) (k := 5) rfl rfl rfl rfl rfl sc_words_of (fun _ _ _ _ _ _ us hl => match us, hl with | [_, _], _ => rfl) (fun vs H Q E h => ?len) (fun cdv A outer s H vs Q E hr h => ⟨_,
      (pss_one (ps_ret (pe_op op_gAdd (pe_fn (takes_of rfl rfl rfl rfl) c_slots_of (hr.mono (by decide)) (by rfl) (pa_cons (pv 0) (pa_cons (pv 1) pa_nil))) pe_int))), ?rd⟩)
  case len => obtain ⟨m, dx, l, ws, v, rfl, _⟩ := h; rfl
  case rd =>
    obtain ⟨m, dx, l, ws, v, rfl, M, vw, th, h⟩ := h
    walk_at "w2"
    refine ⟨m, dx, l, ws, v, rfl, M, vw, th, ?_⟩
    cases e : headW ws v with
    | noPlace =>
      rw [e] at h
      exact h
    | noCell =>
      rw [e] at h
      exact h
    | ok i k =>
      rw [e] at h
      walk_at "w2"
      have e2 : ((k / 4 : Nat) : Int) + 1 = ((k / 4 + 1 : Nat) : Int) := by omega
      rw [e2]
      exact h
theorem f_aged (T : Tx K mg) : Fn P w K mg base 6 "aged" ["memory", "at", "age"] (sp_aged K) := by
  have c_slots_of := f_slots_of (P := P) (w := w) (base := base) T
  have c_is_whole := f_is_whole (P := P) (w := w) (base := base) T
  have c_Memory_write := f_Memory_write (P := P) (w := w) (base := base) T
  have c_number_word := f_number_word (P := P) (w := w) (base := base) T
  refine T.mkFn 12 32 (d := d_aged) (N := ["memory", "at", "age", "slots"]) (k := 5) rfl rfl rfl rfl rfl sc_aged (fun _ _ _ _ _ _ us hl => match us, hl with | [_, _, _], _ => rfl) (fun vs H Q E h => ?len) (fun cdv A outer s H vs Q E hr h => ⟨_,
      (pss_cons (ps_set (i := 3) sc_aged.nd rfl (Or.inl rfl) (pe_fn (takes_of rfl rfl rfl rfl) c_slots_of (hr.mono (by decide)) (by rfl) (pa_cons (pv 0) (pa_cons (pv 1) pa_nil))))
        (pss_cons (ps_if (PW.pt (pw_or (pt_not (pt_val (pe_fn (takes_of rfl rfl rfl rfl) c_is_whole (hr.mono (by decide)) (by rfl) (pa_cons (pv 2) pa_nil)))) (pw_or1 (pt_not (pt_chain op_le op_le pe_int (pv 2) (pe_num (T.num 51) (by rfl))))))) (pss_one (ps_raiseK (K := K) rfl rfl (takes_of rfl rfl rfl rfl) (T.says.fact 73 rfl) (T.glo 3) (by rfl))) pss_nil)
        (pss_one (ps_expr (pe_mt (K := K) rfl (takes_of rfl rfl rfl rfl) (pv 0) c_Memory_write (hr.mono (by decide)) (pa_cons (pv 1) (pa_cons (pe_fn (takes_of rfl rfl rfl rfl) c_number_word (hr.mono (by decide)) (by rfl) (pa_cons (pe_op op_gAdd (pe_op op_gMul pe_int (pv 3)) (pv 2)) pa_nil)) pa_nil))))))), ?rd⟩)
  case len => obtain ⟨m, dx, l, ws, v, z, rfl, _⟩ := h; rfl
  case rd =>
    obtain ⟨m, dx, l, ws, v, z, rfl, M, vw, th, tz, h⟩ := h
    walk_at "w2"
    refine ⟨m, dx, l, ws, v, rfl, M, vw, th, ?_⟩
    cases e : headW ws v with
    | noPlace =>
      rw [e] at h
      exact h
    | noCell =>
      rw [e] at h
      exact h
    | ok i k =>
      rw [e] at h
      obtain ⟨rfl, hi, eh⟩ := head_ok e
      obtain ⟨-, h34, -⟩ := headAt_some eh
      walk_at "w2"
      rcases tz with ⟨n, rfl⟩ | o
      · walk_at "w2"
        rw [ageW_int] at h
        split
        · split
          · rw [if_neg (by omega)] at h
            exact h
          · rw [if_pos (by omega)] at h
            refine ⟨recv M.ob, ?_⟩
            rw [x_number_word, if_pos (by omega)]
            have e1 : (wordOf (2 * (4 * ((k / 4 : Nat) : Int) + n))).isSome = true := by rw [word_num (by omega)]; rfl
            refine ⟨m, dx, l, ws, _, _, rfl, M, .inl ⟨_, rfl⟩, .inl ⟨_, rfl⟩, ?_⟩
            rw [placeOf_int, if_pos ⟨by omega, by omega⟩, wordV_int, if_pos e1, Int.toNat_natCast]
            have e2 : 4 * ((k / 4 : Nat) : Int) + n = ((4 * (k / 4) + n.toNat : Nat) : Int) := by omega
            have e3 : 2 * (4 * ((k / 4 : Nat) : Int) + n) = 2 * ((4 * (k / 4) + n.toNat : Nat) : Int) := by omega
            show Q .non (upd H l (.lst ((ws.set i (2 * (4 * ((k / 4 : Nat) : Int) + n))).map V.int)))
            rw [e3]
            exact h
        · rw [if_neg (by omega)] at h
          exact h
      · rw [odd_whole o]
        rw [ageW_odd o] at h
        walk_at "w2"
        exact h
theorem f_slot_place (T : Tx K mg) : Fn P w K mg base 6 "slot_place" ["memory", "at", "slot"] (sp_slot_place K) := by
  have c_slots_of := f_slots_of (P := P) (w := w) (base := base) T
  have c_is_whole := f_is_whole (P := P) (w := w) (base := base) T
  refine T.mkFn 13 33 (d := d_slot_place) (N := ["memory", "at", "slot", "slots"]) (k := 5) rfl rfl rfl rfl rfl sc_slot_place (fun _ _ _ _ _ _ us hl => match us, hl with | [_, _, _], _ => rfl) (fun vs H Q E h => ?len) (fun cdv A outer s H vs Q E hr h => ⟨_,
      (pss_cons (ps_set (i := 3) sc_slot_place.nd rfl (Or.inl rfl) (pe_fn (takes_of rfl rfl rfl rfl) c_slots_of (hr.mono (by decide)) (by rfl) (pa_cons (pv 0) (pa_cons (pv 1) pa_nil))))
        (pss_cons (ps_if (PW.pt (pw_or (pt_not (pt_val (pe_fn (takes_of rfl rfl rfl rfl) c_is_whole (hr.mono (by decide)) (by rfl) (pa_cons (pv 2) pa_nil)))) (pw_or1 (pt_not (pt_chain op_le op_lt pe_int (pv 2) (pv 3)))))) (pss_one (ps_raiseK (K := K) rfl rfl (takes_of rfl rfl rfl rfl) (T.says.fact 76 rfl) (T.glo 6) (by rfl))) pss_nil)
        (pss_one (ps_ret (pe_op op_gAdd (pe_op op_gAdd (pv 1) pe_int) (pv 2)))))), ?rd⟩)
  case len => obtain ⟨m, dx, l, ws, v, z, rfl, _⟩ := h; rfl
  case rd =>
    obtain ⟨m, dx, l, ws, v, z, rfl, M, vw, th, tz, h⟩ := h
    walk_at "w2"
    refine ⟨m, dx, l, ws, v, rfl, M, vw, th, ?_⟩
    cases e : headW ws v with
    | noPlace =>
      rw [e] at h
      exact h
    | noCell =>
      rw [e] at h
      exact h
    | ok i k =>
      rw [e] at h
      obtain ⟨rfl, hi, eh⟩ := head_ok e
      walk_at "w2"
      have h : (match placeOf (k / 4) z with
        | none => E (Ex K "NoSlot") none H
        | some s => Q (.int ((i + 1 + s : Nat) : Int)) H) := h
      rcases tz with ⟨n, rfl⟩ | o
      · walk_at "w2"
        rw [placeOf_int] at h
        split
        · split
          · rw [if_neg (by omega)] at h
            exact h
          · rw [if_pos (by omega)] at h
            have e2 : (i : Int) + 1 + n = ((i + 1 + n.toNat : Nat) : Int) := by omega
            rw [e2]
            exact h
        · rw [if_neg (by omega)] at h
          exact h
      · rw [odd_whole o]
        rw [placeOf_odd o] at h
        walk_at "w2"
        exact h
theorem f_children (T : Tx K mg) : Fn P w K mg base 6 "children" ["memory", "at"] (sp_children K) := by
  have c_slots_of := f_slots_of (P := P) (w := w) (base := base) T
  have c_Memory_read := f_Memory_read (P := P) (w := w) (base := base) T
  have c_kind := f_kind (P := P) (w := w) (base := base) T
  have c_worth := f_worth (P := P) (w := w) (base := base) T
  refine T.mkFn 14 34 (d := d_children) (N := ["memory", "at", "found", "slot", "word"]) (k := 5) rfl rfl rfl rfl rfl sc_children (fun _ _ _ _ _ _ us hl => match us, hl with | [_, _], _ => rfl) (fun vs H Q E h => ?len) (fun cdv A outer s H vs Q E hr h => ⟨_,
      (pss_cons (ps_set (i := 2) sc_children.nd rfl (Or.inl rfl) (pe_lst pa_nil))
        (pss_cons (ps_for (passes_of rfl) rfl (pi_range1 rfl (T.free 61) (pa_cons (pe_fn (takes_of rfl rfl rfl rfl) c_slots_of (hr.mono (by decide)) (by rfl) (pa_cons (pv 0) (pa_cons (pv 1) pa_nil))) pa_nil)) (pg_name (i := 3) sc_children.nd rfl (Or.inl rfl)) (pss_cons (ps_set (i := 4) sc_children.nd rfl (Or.inl rfl) (pe_mt (K := K) rfl (takes_of rfl rfl rfl rfl) (pv 0) c_Memory_read (hr.mono (by decide)) (pa_cons (pe_op op_gAdd (pe_op op_gAdd (pv 1) pe_int) (pv 3)) pa_nil)))
        (pss_one (ps_if (pt_cmpR (op_eqK (K := K) rfl hr.units) (pe_fn (takes_of rfl rfl rfl rfl) c_kind (hr.mono (by decide)) (by rfl) (pa_cons (pv 4) pa_nil)) pe_str (nomark _)) (pss_one (ps_expr (pe_bm PySem.F.plainAttrs_list PySem.F.slot_list_append PySem.F.type_list_append mt_append (pv 2) (pa_cons (pe_fn (takes_of rfl rfl rfl rfl) c_worth (hr.mono (by decide)) (by rfl) (pa_cons (pv 4) pa_nil)) pa_nil)))) pss_nil))))
        (pss_one (ps_ret (pv 2))))), ?rd⟩)
  case len => obtain ⟨m, dx, l, ws, v, rfl, _⟩ := h; rfl
  case rd =>
    obtain ⟨m, dx, l, ws, v, rfl, M, vw, th, h⟩ := h
    walk_at "w2"
    refine ⟨by rw [sizeLine_eq]; omega, fun p hp => ?_⟩
    have sp := same_new (o := .lst []) hp
    have M1 := M.same sp
    refine ⟨m, dx, l, ws, v, rfl, M1, vw, thing_same sp th, ?_⟩
    cases e : headW ws v with
    | noPlace =>
      rw [e] at h
      exact h _ sp
    | noCell =>
      rw [e] at h
      exact h _ sp
    | ok i k =>
      rw [e] at h
      obtain ⟨rfl, hi, eh⟩ := head_ok e
      obtain ⟨-, h34, -⟩ := headAt_some eh
      obtain ⟨fit, h⟩ := h
      dsimp only
      walk_at "w2"
      have ek : ((k / 4 : Nat) : Int).toNat = k / 4 := Int.toNat_natCast _
      rw [ek]
      refine ⟨by omega, by omega, forW_range (fun t σ H' => ∃ o3 o4, σ = [some (.ref m), some (.int (i : Int)), some (.ref p), o3, o4] ∧ Same H H' ∧ H' p = some (.lst ((kidsT ws i t).map V.int))) ⟨_, _, rfl, sp, upd_same⟩ ?_ ?_⟩
      · rintro t σ H' ht ⟨o3, o4, rfl, s, hp'⟩
        have M2 := M.same s
        have hj : i + 1 + t < ws.length := by omega
        obtain ⟨w, ew⟩ := vw.get hj
        walk_at "w2"
        have ej : (i : Int) + 1 + ((0 : Int) + (t : Int)) = ((i + 1 + t : Nat) : Int) := by omega
        rw [ej]
        refine ⟨recv M2.ob, m, dx, l, ws, _, rfl, M2, .inl ⟨_, rfl⟩, ?_⟩
        rw [placeOf_int, if_pos ⟨by omega, by omega⟩, Int.toNat_natCast]
        dsimp only
        walk_at "w2"
        simp only [x_worth]
        have kl := kidsT_len (ws := ws) (i := i) (t := t)
        rw [kidsT_succ, ew]
        dsimp only
        cases w with
        | nothing =>
          simp only [k_nn, k_pn, k_Nn, k_np, k_Np, k_pp, not_true_eq_false, not_false_eq_true, if_true, if_false, ite_true, ite_false, Wd.worth]
          rw [List.append_nil]
          exact ⟨_, _, rfl, s, hp'⟩
        | num n =>
          simp only [k_nn, k_pn, k_Nn, k_np, k_Np, k_pp, not_true_eq_false, not_false_eq_true, if_true, if_false, ite_true, ite_false, Wd.worth]
          rw [List.append_nil]
          exact ⟨_, _, rfl, s, hp'⟩
        | place g =>
          simp only [k_nn, k_pn, k_Nn, k_np, k_Np, k_pp, not_true_eq_false, not_false_eq_true, if_true, if_false, ite_true, ite_false, Wd.worth]
          refine r_app hp' (by rw [List.length_map, sizeLine_eq]; omega) ⟨_, _, rfl, fun c o e => ?_, ?_⟩
          · rw [upd_ne (ne_of_none e hp)]
            exact s _ _ e
          · rw [upd_same, List.map_append]
            rfl
      · rintro σ H' ⟨o3, o4, rfl, s, hp'⟩
        walk_at "w2"
        exact h p H' hp s hp'
theorem f_lay (T : Tx K mg) : Fn P w K mg base 4 "lay" ["memory", "at", "slots"] (sp_lay K) := by
  have c_need_slots := f_need_slots (P := P) (w := w) (base := base) T
  have c_is_whole := f_is_whole (P := P) (w := w) (base := base) T
  have c_Memory_write := f_Memory_write (P := P) (w := w) (base := base) T
  have c_number_word := f_number_word (P := P) (w := w) (base := base) T
  refine T.mkFn 7 27 (d := d_lay) (N := ["memory", "at", "slots", "slot"]) (k := 3) rfl rfl rfl rfl rfl sc_lay (fun _ _ _ _ _ _ us hl => match us, hl with | [_, _, _], _ => rfl) (fun vs H Q E h => ?len) (fun cdv A outer s H vs Q E hr h => ⟨_,
      (pss_cons (ps_expr (pe_fn (takes_of rfl rfl rfl rfl) c_need_slots (hr.mono (by decide)) (by rfl) (pa_cons (pv 2) pa_nil)))
        (pss_cons (ps_if (PW.pt (pw_or (pt_not (pt_val (pe_fn (takes_of rfl rfl rfl rfl) c_is_whole (hr.mono (by decide)) (by rfl) (pa_cons (pv 1) pa_nil)))) (pw_or (pt_cmpR op_lt (pv 1) pe_int (nomark _)) (pw_or1 (pt_cmpR op_ge (pe_op op_gAdd (pv 1) (pv 2)) (pe_fldC (T.cls 81) (T.noat 88) (pv 0)) (nomark _)))))) (pss_one (ps_raiseK (K := K) rfl rfl (takes_of rfl rfl rfl rfl) (T.says.fact 74 rfl) (T.glo 4) (by rfl))) pss_nil)
        (pss_cons (ps_expr (pe_mt (K := K) rfl (takes_of rfl rfl rfl rfl) (pv 0) c_Memory_write (hr.mono (by decide)) (pa_cons (pv 1) (pa_cons (pe_fn (takes_of rfl rfl rfl rfl) c_number_word (hr.mono (by decide)) (by rfl) (pa_cons (pe_op op_gMul pe_int (pv 2)) pa_nil)) pa_nil))))
        (pss_one (ps_for (passes_of rfl) rfl (pi_range1 rfl (T.free 61) (pa_cons (pv 2) pa_nil)) (pg_name (i := 3) sc_lay.nd rfl (Or.inl rfl)) (pss_one (ps_expr (pe_mt (K := K) rfl (takes_of rfl rfl rfl rfl) (pv 0) c_Memory_write (hr.mono (by decide)) (pa_cons (pe_op op_gAdd (pe_op op_gAdd (pv 1) pe_int) (pv 3)) (pa_cons (pe_num (T.num 49) (by rfl)) pa_nil)))))))))), ?rd⟩)
  case len => obtain ⟨m, dx, l, ws, v, z, rfl, _⟩ := h; rfl
  case rd =>
    obtain ⟨m, dx, l, ws, v, z, rfl, M, th, tz, h⟩ := h
    walk_at "w2"
    refine ⟨z, rfl, tz, ?_⟩
    have hz := M.sz
    cases es : slotsW z with
    | none =>
      rw [es] at h
      exact h
    | some s =>
      rw [es] at h
      obtain ⟨rfl, s8⟩ := slotsW_some es
      have h : (match placeOf (ws.length - s) v with
        | none => E (Ex K "NoPlace") none H
        | some i => ∀ H', MemO K H' m dx l (layT ws i s s) → (∀ b o, b ≠ l → H b = some o → H' b = some o) → Q .non H') := h
      dsimp only
      walk_at "w2"
      rcases th with ⟨n, rfl⟩ | o
      · walk_at "w2"
        rw [placeOf_int] at h
        split
        · rw [if_neg (by omega)] at h
          exact h
        · refine ⟨_, fldIs M.ob, ?_⟩
          walk_at "w2"
          split
          · rw [if_neg (by omega)] at h
            exact h
          · rw [if_pos (by omega)] at h
            obtain ⟨i, rfl⟩ := Int.eq_ofNat_of_zero_le (show 0 ≤ n by omega)
            rw [Int.toNat_natCast] at h
            dsimp only at h
            refine ⟨recv M.ob, ?_⟩
            walk_at "w2"
            rw [x_number_word, if_pos (by omega)]
            have e2 : 2 * (4 * (s : Int)) = 8 * (s : Int) := by omega
            rw [e2]
            have e1 : (wordOf (8 * (s : Int))).isSome = true := by rw [← e2, word_num (by omega)]; rfl
            refine ⟨m, dx, l, ws, _, _, rfl, M, .inl ⟨_, rfl⟩, .inl ⟨_, rfl⟩, ?_⟩
            rw [placeOf_int, if_pos ⟨by omega, by omega⟩, wordV_int, if_pos e1, Int.toNat_natCast]
            dsimp only
            walk_at "w2"
            rw [Int.toNat_natCast]
            have M0 : MemO K (upd H l (.lst ((ws.set i (8 * (s : Int))).map V.int))) m dx l (layT ws i s 0) := M.put _ (List.length_set ..)
            refine ⟨by omega, by omega, forW_range (fun t σ H' => ∃ o3, σ = [some (.ref m), some (.int (i : Int)), some (.int (s : Int)), o3] ∧ MemO K H' m dx l (layT ws i s t) ∧ ∀ b o, b ≠ l → H b = some o → H' b = some o) ⟨_, rfl, M0, fun b o hb e => by rw [upd_ne hb]; exact e⟩ ?_ ?_⟩
            · rintro t σ H' ht ⟨o3, rfl, M2, k⟩
              walk_at "w2"
              have ej : (i : Int) + 1 + ((0 : Int) + (t : Int)) = ((i + 1 + t : Nat) : Int) := by omega
              rw [ej]
              have ll := layT_len (ws := ws) (i := i) (s := s) (t := t)
              refine ⟨recv M2.ob, m, dx, l, _, _, _, rfl, M2, .inl ⟨_, rfl⟩, .inl ⟨_, rfl⟩, ?_⟩
              rw [placeOf_int, if_pos ⟨by omega, by omega⟩, wordV_int, if_pos (show (wordOf (-1)).isSome = true from rfl), Int.toNat_natCast]
              dsimp only
              walk_at "w2"
              have M3 := M2.put ((layT ws i s t).set (i + 1 + t) (-1)) (List.length_set ..)
              refine ⟨_, rfl, ?_, fun b o hb e => by rw [upd_ne hb]; exact k b o hb e⟩
              rw [layT_succ]
              exact M3
            · rintro σ H' ⟨o3, rfl, M2, k⟩
              exact h H' M2 k
      · rw [odd_whole o]
        rw [placeOf_odd o] at h
        walk_at "w2"
        exact h
end

local macro_rules | `(tactic| walk_at "w2") => `(tactic| try simp only [↓x_var0, ↓x_varS, ↓x_c, ↓x_op, ↓x_un, ↓x_cb, ↓x_nil, ↓x_cons, ↓x_test, ↓x_b, ↓x_ex, ↓x_and, ↓x_or, ↓x_not, ↓x_andV, ↓x_orV, ↓x_notV, ↓x_tif, ↓x_chain, ↓x_menu, ↓x_menuI, ↓x_lst, ↓x_tup, ↓x_dnew, ↓x_callW, ↓x_callN, ↓x_seq, ↓x_next, ↓x_ret, ↓x_retN, ↓x_drop, ↓x_ifS, ↓x_asg, ↓x_name, ↓x_raise, ↓x_fld, ↓x_setF, ↓x_meth, ↓x_make, ↓x_sub, ↓r_min, ↓r_max, ↓x_yes, ↓x_for, ↓x_lock, ↓x_keys, ↓x_cut, ↓x_lc, ↓x_rng1, ↓x_rng2, ↓x_lst1, ↓x_itup, ↓x_rng3, ↓x_three, ↓x_lstg, ↓x_tupg, ↓x_adrS, ↓x_one, ↓x_two, ↓x_adr, ↓x_sl, ↓x_np, ↓x_pt, ↓x_int, ↓x_bm, ↓x_bm0, ↓x_consg, ↓x_nilg, ↓x_dget2, ↓x_dget1, ↓x_dget, ↓x_din, ↓x_dni, ↓x_dput, ↓x_dpop2, ↓r_isB, ↓r_notB, ↓x_enum, ↓x_zip, ↓x_str, ↓x_strE, ↓r_inS, ↓r_ninS, wipe, List.map_cons, List.map_nil, ↓x_isT, ↓r_isiII, ↓r_isiBB, ↓r_isiIB, ↓r_isiSS, ↓r_neNS, ↓r_neSN, ↓r_neNN, ↓r_eqNS, ↓r_eqSN, ↓r_eqNN, ↓r_eqIS, ↓r_neIS, ↓r_neSI, ↓r_neBS, ↓r_eqBB, ↓r_neBB, ↓x_start, ↓x_K, ↓x_start0, ↓r_i0, ↓r_i, ↓r_u, ↓r_addI, ↓r_addS, ↓r_mulI, ↓r_mulS, ↓r_eqI, ↓r_neI, ↓r_eqS, ↓r_neS, ↓r_absI, ↓r_intI, ↓r_intB, List.length_cons, List.length_nil, List.replicate, List.set_cons_zero, List.set_cons_succ, decide_eq_true_eq, Bool.not_eq_true', decide_eq_false_iff_not, if_true, if_false, Bool.false_eq_true, Bool.true_eq_false, ite_true, ite_false, Bool.not_true, Bool.not_false, c_div, n_ten, c_pow, not_true_eq_false, not_false_eq_true, decide_true, decide_false, true_and, and_true, and_self, true_or, or_true, Int.reduceLT, Int.reduceLE, Int.reduceMul, Int.reduceAdd, Int.reduceSub, Int.reducePow, Int.reduceNeg, Int.reduceDiv, Int.reduceMod, Nat.reducePow, Int.reduceToNat, Int.reduceEq, Int.reduceNe, Nat.reduceLT, Nat.reduceLeDiff, Nat.reduceAdd, ↓x_whole, ↓x_kind])
/-! ## spaces -/
def SpV (K : PySem.W.Frag) (dx : Addr) (b e t : Nat) : HO := .ins (He.ga K "Space") dx (F_Space (.int (b : Int)) (.int (e : Int)) (.int (t : Int)))
abbrev SpO (K : PySem.W.Frag) (H : Hp) (s dx : Addr) (b e t : Nat) : Prop := H s = some (SpV K dx b e t)
theorem spv_lst {K dx b e t xs} : SpV K dx b e t ≠ .lst xs := fun z => by cases z
theorem F_len_Space {v0 v1 v2 : V} : (F_Space v0 v1 v2).length = 3 := rfl
theorem F_len_Memory {v0 v1 : V} : (F_Memory v0 v1).length = 2 := rfl
theorem spv_fs {K dx b e t C d fs} (h : fs.length ≠ 3) : SpV K dx b e t ≠ .ins C d fs := fun z => by
  cases z
  exact h rfl
theorem layT_at {ws : List Int} {i s t : Nat} (hi : i < ws.length) : (layT ws i s t).getD i 0 = 8 * (s : Int) := by
  induction t with
  | zero =>
    show (ws.set i (8 * (s : Int))).getD i 0 = _
    rw [List.getD_eq_getElem?_getD, List.getElem?_set_self hi]
    rfl
  | succ t ih =>
    rw [layT_succ, List.getD_eq_getElem?_getD, List.getElem?_set_ne (by omega), ← List.getD_eq_getElem?_getD, ih]
theorem head_8 {s : Nat} (h : s ≤ 8) : headAt (8 * (s : Int)) = some (4 * s) := by
  have e : 8 * (s : Int) = 2 * (4 * (s : Int)) := by omega
  unfold headAt
  rw [e, word_num (by omega)]
  dsimp only
  rw [if_pos (by omega)]
  congr 1
inductive Tk where
  | count | room | ok (n : Nat)
def takeW (b e t : Nat) : V → Tk
  | .int n => if n < 1 then .count else if n > (e : Int) - t then .room else .ok n.toNat
  | _ => .count
theorem takeW_int {b e t : Nat} {n : Int} : takeW b e t (.int n) = if n < 1 then .count else if n > (e : Int) - t then .room else .ok n.toNat := rfl
theorem takeW_odd {H : Hp} {b e t : Nat} {v : V} (h : Odd H v) : takeW b e t v = .count := by
  cases v with
  | int i => exact (odd_not h).elim
  | _ => rfl
def cutW (b e : Nat) : V → Option Nat
  | .int n => if (b : Int) ≤ n ∧ n ≤ e then some n.toNat else none
  | _ => none
theorem cutW_int {b e : Nat} {n : Int} : cutW b e (.int n) = if (b : Int) ≤ n ∧ n ≤ e then some n.toNat else none := rfl
theorem cutW_odd {H : Hp} {b e : Nat} {v : V} (h : Odd H v) : cutW b e v = none := by
  cases v with
  | int i => exact (odd_not h).elim
  | _ => rfl
/-- cells one behind the other from i to the top -/
inductive Chain (ws : List Int) (t : Nat) : Nat → List Int → Prop where
  | nil {i : Nat} (h : t ≤ i) : Chain ws t i []
  | cons {i k : Nat} {ps : List Int} (h : i < t) (hi : i < ws.length) (e : headAt (ws.getD i 0) = some k) (c : Chain ws t (i + (k / 4 + 1)) ps) : Chain ws t i ((i : Int) :: ps)
theorem Chain.len {ws : List Int} {t i : Nat} {ps : List Int} (h : Chain ws t i ps) : ps.length ≤ ws.length - i := by
  induction h with
  | nil h => exact Nat.zero_le _
  | cons h hi e c ih =>
    rw [List.length_cons]
    omega
theorem same_mk2 {H : Hp} {x dx : Addr} {o1 o2 : HO} (nx : H x = none) (ndx : H dx = none) : Same H (upd (upd (upd H dx (.own x)) x o1) x o2) := fun b o e => by
  rw [upd_upd, upd_ne (ne_of_none e nx), upd_ne (ne_of_none e ndx)]
  exact e
def sp_Space___init__ (K : PySem.W.Frag) : Sp := fun vs H Q _ => ∃ s dx, ∃ b e : Nat, vs = [.ref s, .int b, .int e] ∧ H s = some (.ins (He.ga K "Space") dx []) ∧ Q .non (upd H s (SpV K dx b e b))
def sp_Space_room (K : PySem.W.Frag) : Sp := fun vs H Q _ => ∃ s dx b e t, vs = [.ref s] ∧ SpO K H s dx b e t ∧ Q (.int ((e : Int) - t)) H
def sp_Space_used (K : PySem.W.Frag) : Sp := fun vs H Q _ => ∃ s dx b e t, vs = [.ref s] ∧ SpO K H s dx b e t ∧ Q (.int ((t : Int) - b)) H
def sp_Space_has (K : PySem.W.Frag) : Sp := fun vs H Q _ => ∃ s dx b e t n, vs = [.ref s, .int n] ∧ SpO K H s dx b e t ∧ Q (.bl (decide ((b : Int) ≤ n ∧ n < t))) H
def sp_Space_take (K : PySem.W.Frag) : Sp := fun vs H Q E => ∃ s dx b e t v, vs = [.ref s, v] ∧ SpO K H s dx b e t ∧ Thing H v ∧ match takeW b e t v with
  | .count => E (Ex K "BadCount") none H
  | .room => E (Ex K "NoRoom") none H
  | .ok n => Q (.int t) (upd H s (SpV K dx b e (t + n)))
def sp_Space_empty (K : PySem.W.Frag) : Sp := fun vs H Q _ => ∃ s dx b e t, vs = [.ref s] ∧ SpO K H s dx b e t ∧ Q .non (upd H s (SpV K dx b e b))
def sp_Space_cut (K : PySem.W.Frag) : Sp := fun vs H Q E => ∃ s dx b e t v, vs = [.ref s, v] ∧ SpO K H s dx b e t ∧ Thing H v ∧ match cutW b e v with
  | none => E (Ex K "BadCount") none H
  | some n => Q .non (upd H s (SpV K dx b e n))
def sp_Space_cells (K : PySem.W.Frag) : Sp := fun vs H Q _ => ∃ s dx b e t m mx l ws ps, vs = [.ref s, .ref m] ∧ SpO K H s dx b e t ∧ MemO K H m mx l ws ∧ Vw ws ∧ Chain ws t b ps ∧
  ∀ p H', H p = none → Same H H' → H' p = some (.lst (ps.map V.int)) → Q (.ref p) H'
section
variable {P : Program} {w : World} {K : PySem.W.Frag} {mg : Str → Option Value} {base : Heap}
theorem f_Space___init__ (T : Tx K mg) : Mi P w K mg base 1 "Space" ["self", "begin", "end"] (sp_Space___init__ K) := by
  refine T.mkMi 26 91 12 (d := d_Space___init__) (N := ["self", "begin", "end"]) (k := 0) rfl rfl rfl rfl rfl rfl sc_Space___init__ (fun _ _ _ _ _ _ us hl => match us, hl with | [_, _, _], _ => rfl) (fun vs H Q E h => ?len) (fun cdv A outer s H vs Q E hr h => ⟨_,
      (pss_cons (ps_fldC (T.cls 90) (T.noat 99) (pv 0) (pv 1))
        (pss_cons (ps_fldC (T.cls 90) (T.noat 100) (pv 0) (pv 2))
        (pss_one (ps_fldC (T.cls 90) (T.noat 101) (pv 0) (pv 1))))), ?rd⟩)
  case len => obtain ⟨s, dx, b, e, rfl, _⟩ := h; rfl
  case rd =>
    obtain ⟨s, dx, b, e, rfl, S, q⟩ := h
    walk_at "w2"
    refine ⟨s, dx, _, rfl, S, by decide, ?_⟩
    rw [pi_Space_begin]
    refine ⟨s, dx, _, rfl, upd_same, by show 1 < 1000; decide, ?_⟩
    rw [pi_Space_end, upd_upd]
    refine ⟨s, dx, _, rfl, upd_same, by show 2 < 1000; decide, ?_⟩
    rw [pi_Space_top, upd_upd]
    exact q
theorem f_Space_room (T : Tx K mg) : Mt P w K mg base 1 "Space" "room" ["self"] (sp_Space_room K) := by
  refine T.mkMt 27 92 90 (d := d_Space_room) (N := ["self"]) (k := 0) rfl rfl rfl rfl rfl rfl sc_Space_room (fun _ _ _ _ _ _ us hl => match us, hl with | [_], _ => rfl) (fun vs H Q E h => ?len) (fun cdv A outer s H vs Q E hr h => ⟨_,
      (pss_one (ps_ret (pe_op op_sub (pe_fldC (T.cls 90) (T.noat 100) (pv 0)) (pe_fldC (T.cls 90) (T.noat 101) (pv 0))))), ?rd⟩)
  case len => obtain ⟨s, dx, b, e, t, rfl, _⟩ := h; rfl
  case rd =>
    obtain ⟨s, dx, b, e, t, rfl, S, q⟩ := h
    walk_at "w2"
    refine ⟨_, fldIs S, _, fldIs S, ?_⟩
    walk_at "w2"
    exact q
theorem f_Space_used (T : Tx K mg) : Mt P w K mg base 1 "Space" "used" ["self"] (sp_Space_used K) := by
  refine T.mkMt 28 93 90 (d := d_Space_used) (N := ["self"]) (k := 0) rfl rfl rfl rfl rfl rfl sc_Space_used (fun _ _ _ _ _ _ us hl => match us, hl with | [_], _ => rfl) (fun vs H Q E h => ?len) (fun cdv A outer s H vs Q E hr h => ⟨_,
      (pss_one (ps_ret (pe_op op_sub (pe_fldC (T.cls 90) (T.noat 101) (pv 0)) (pe_fldC (T.cls 90) (T.noat 99) (pv 0))))), ?rd⟩)
  case len => obtain ⟨s, dx, b, e, t, rfl, _⟩ := h; rfl
  case rd =>
    obtain ⟨s, dx, b, e, t, rfl, S, q⟩ := h
    walk_at "w2"
    refine ⟨_, fldIs S, _, fldIs S, ?_⟩
    walk_at "w2"
    exact q
theorem f_Space_has (T : Tx K mg) : Mt P w K mg base 1 "Space" "has" ["self", "at"] (sp_Space_has K) := by
  refine T.mkMt 29 94 90 (d := d_Space_has) (N := ["self", "at"]) (k := 0) rfl rfl rfl rfl rfl rfl sc_Space_has (fun _ _ _ _ _ _ us hl => match us, hl with | [_, _], _ => rfl) (fun vs H Q E h => ?len) (fun cdv A outer s H vs Q E hr h => ⟨_,
      (pss_one (ps_ret (pe_chain op_le op_lt (pe_fldC (T.cls 90) (T.noat 99) (pv 0)) (pv 1) (pe_fldC (T.cls 90) (T.noat 101) (pv 0))))), ?rd⟩)
  case len => obtain ⟨s, dx, b, e, t, n, rfl, _⟩ := h; rfl
  case rd =>
    obtain ⟨s, dx, b, e, t, n, rfl, S, q⟩ := h
    walk_at "w2"
    refine ⟨_, fldIs S, ?_⟩
    walk_at "w2"
    split
    · refine ⟨_, fldIs S, ?_⟩
      walk_at "w2"
      have c : ((b : Int) ≤ n ∧ n < t) = (n < t) := propext ⟨fun z => z.2, fun z => ⟨‹_›, z⟩⟩
      simp only [c] at q
      exact q
    · rw [decide_eq_false (fun z => absurd z.1 ‹_›)] at q
      exact q
theorem f_Space_take (T : Tx K mg) : Mt P w K mg base 2 "Space" "take" ["self", "many"] (sp_Space_take K) := by
  have c_is_whole := f_is_whole (P := P) (w := w) (base := base) T
  have c_Space_room := f_Space_room (P := P) (w := w) (base := base) T
  refine T.mkMt 30 95 90 (d := d_Space_take) (N := ["self", "many", "at"]) (k := 1) rfl rfl rfl rfl rfl rfl sc_Space_take (fun _ _ _ _ _ _ us hl => match us, hl with | [_, _], _ => rfl) (fun vs H Q E h => ?len) (fun cdv A outer s H vs Q E hr h => ⟨_,
      (pss_cons (ps_if (PW.pt (pw_or (pt_not (pt_val (pe_fn (takes_of rfl rfl rfl rfl) c_is_whole (hr.mono (by decide)) (by rfl) (pa_cons (pv 1) pa_nil)))) (pw_or1 (pt_cmpR op_lt (pv 1) pe_int (nomark _))))) (pss_one (ps_raiseK (K := K) rfl rfl (takes_of rfl rfl rfl rfl) (T.says.fact 73 rfl) (T.glo 3) (by rfl))) pss_nil)
        (pss_cons (ps_if (pt_cmpR op_gt (pv 1) (pe_mt0 (K := K) rfl (takes_of rfl rfl rfl rfl) (pv 0) c_Space_room (hr.mono (by decide))) (nomark _)) (pss_one (ps_raiseK (K := K) rfl rfl (takes_of rfl rfl rfl rfl) (T.says.fact 75 rfl) (T.glo 5) (by rfl))) pss_nil)
        (pss_cons (ps_set (i := 2) sc_Space_take.nd rfl (Or.inl rfl) (pe_fldC (T.cls 90) (T.noat 101) (pv 0)))
        (pss_cons (ps_fldC (T.cls 90) (T.noat 101) (pv 0) (pe_op op_gAdd (pv 2) (pv 1)))
        (pss_one (ps_ret (pv 2))))))), ?rd⟩)
  case len => obtain ⟨s, dx, b, e, t, v, rfl, _⟩ := h; rfl
  case rd =>
    obtain ⟨s, dx, b, e, t, v, rfl, S, th, h⟩ := h
    walk_at "w2"
    rcases th with ⟨n, rfl⟩ | o
    · walk_at "w2"
      rw [takeW_int] at h
      split
      · rw [if_pos ‹_›] at h
        exact h
      · rw [if_neg ‹_›] at h
        refine ⟨recv S, s, dx, b, e, t, rfl, S, ?_⟩
        walk_at "w2"
        split
        · rw [if_pos ‹_›] at h
          exact h
        · rw [if_neg ‹_›] at h
          obtain ⟨j, rfl⟩ := Int.eq_ofNat_of_zero_le (show 0 ≤ n by omega)
          rw [Int.toNat_natCast] at h
          refine ⟨_, fldIs S, ?_⟩
          walk_at "w2"
          refine ⟨s, dx, _, rfl, S, by show 3 < 1000; decide, ?_⟩
          rw [pf_Space_top]
          exact h
    · rw [odd_whole o]
      rw [takeW_odd o] at h
      walk_at "w2"
      exact h
theorem f_Space_cells (T : Tx K mg) : Mt P w K mg base 7 "Space" "cells" ["self", "memory"] (sp_Space_cells K) := by
  have c_words_of := f_words_of (P := P) (w := w) (base := base) T
  refine T.mkMt 33 98 90 (d := d_Space_cells) (N := ["self", "memory", "found", "at"]) (k := 6) rfl rfl rfl rfl rfl rfl sc_Space_cells (fun _ _ _ _ _ _ us hl => match us, hl with | [_, _], _ => rfl) (fun vs H Q E h => ?len) (fun cdv A outer s H vs Q E hr h => ⟨_,
      (pss_cons (ps_set (i := 2) sc_Space_cells.nd rfl (Or.inl rfl) (pe_lst pa_nil))
        (pss_cons (ps_set (i := 3) sc_Space_cells.nd rfl (Or.inl rfl) (pe_fldC (T.cls 90) (T.noat 99) (pv 0)))
        (pss_cons (ps_while (passes_of rfl) (pt_cmpR op_lt (pv 3) (pe_fldC (T.cls 90) (T.noat 101) (pv 0)) (nomark _)) (pss_cons (ps_expr (pe_bm PySem.F.plainAttrs_list PySem.F.slot_list_append PySem.F.type_list_append mt_append (pv 2) (pa_cons (pv 3) pa_nil)))
        (pss_one (ps_set (i := 3) sc_Space_cells.nd rfl (Or.inl rfl) (pe_op op_gAdd (pv 3) (pe_fn (takes_of rfl rfl rfl rfl) c_words_of (hr.mono (by decide)) (by rfl) (pa_cons (pv 1) (pa_cons (pv 3) pa_nil))))))))
        (pss_one (ps_ret (pv 2)))))), ?rd⟩)
  case len => obtain ⟨s, dx, b, e, t, m, mx, l, ws, ps, rfl, _⟩ := h; rfl
  case rd =>
    obtain ⟨s, dx, b, e, t, m, mx, l, ws, ps, rfl, S, M, vw, ch, q⟩ := h
    have cl := ch.len
    have hz := M.sz
    walk_at "w2"
    refine ⟨by rw [sizeLine_eq]; omega, fun p hp => ?_⟩
    have sp := same_new (o := .lst []) hp
    refine ⟨_, fldIs (sp _ _ S), ?_⟩
    walk_at "w2"
    refine whW (fun k σ H' => ∃ (i : Nat) (dn rest : List Int), σ = [some (.ref s), some (.ref m), some (.ref p), some (.int (i : Int))] ∧ k = rest.length ∧ Chain ws t i rest ∧ dn ++ rest = ps ∧ Same H H' ∧ H' p = some (.lst (dn.map V.int))) ⟨_, b, [], ps, rfl, rfl, ch, rfl, sp, upd_same⟩ ?_
    rintro k σ H' ⟨i, dn, rest, rfl, rfl, ch, e1, s1, hp'⟩
    have el : dn.length + rest.length = ps.length := by rw [← e1, List.length_append]
    walk_at "w2"
    refine ⟨_, fldIs (s1 _ _ S), ?_⟩
    walk_at "w2"
    cases ch with
    | nil h =>
      rw [if_neg (by omega)]
      rw [List.append_nil] at e1
      subst e1
      exact q p H' hp s1 hp'
    | cons h hi eh ch =>
      rename_i kk rest
      rw [if_pos (by omega)]
      refine whB ?_
      walk_at "w2"
      rw [List.length_cons] at el
      refine r_app hp' (by rw [List.length_map, sizeLine_eq]; omega) ?_
      walk_at "w2"
      have s2 : Same H (upd H' p (.lst (dn.map V.int ++ [.int (i : Int)]))) := fun c o g => by
        rw [upd_ne (ne_of_none g hp)]
        exact s1 _ _ g
      refine ⟨m, mx, l, ws, _, rfl, M.same s2, vw, .inl ⟨_, rfl⟩, ?_⟩
      have eH : headW ws (.int (i : Int)) = .ok i kk := by
        unfold headW
        rw [placeOf_int, if_pos ⟨by omega, by omega⟩, Int.toNat_natCast]
        dsimp only
        rw [eh]
      rw [eH]
      walk_at "w2"
      have ei : (i : Int) + ((kk / 4 + 1 : Nat) : Int) = ((i + (kk / 4 + 1) : Nat) : Int) := by omega
      rw [ei]
      exact ⟨rest.length, Nat.lt_succ_self _, _, dn ++ [(i : Int)], rest, rfl, rfl, ch, by rw [List.append_assoc]; exact e1, s2, by rw [upd_same, List.map_append]; rfl⟩
end

local macro_rules | `(tactic| walk_at "w2") => `(tactic| try simp only [↓x_var0, ↓x_varS, ↓x_c, ↓x_op, ↓x_un, ↓x_cb, ↓x_nil, ↓x_cons, ↓x_test, ↓x_b, ↓x_ex, ↓x_and, ↓x_or, ↓x_not, ↓x_andV, ↓x_orV, ↓x_notV, ↓x_tif, ↓x_chain, ↓x_menu, ↓x_menuI, ↓x_lst, ↓x_tup, ↓x_dnew, ↓x_callW, ↓x_callN, ↓x_seq, ↓x_next, ↓x_ret, ↓x_retN, ↓x_drop, ↓x_ifS, ↓x_asg, ↓x_name, ↓x_raise, ↓x_fld, ↓x_setF, ↓x_meth, ↓x_make, ↓x_sub, ↓r_min, ↓r_max, ↓x_yes, ↓x_for, ↓x_lock, ↓x_keys, ↓x_cut, ↓x_lc, ↓x_rng1, ↓x_rng2, ↓x_lst1, ↓x_itup, ↓x_rng3, ↓x_three, ↓x_lstg, ↓x_tupg, ↓x_adrS, ↓x_one, ↓x_two, ↓x_adr, ↓x_sl, ↓x_np, ↓x_pt, ↓x_int, ↓x_bm, ↓x_bm0, ↓x_consg, ↓x_nilg, ↓x_dget2, ↓x_dget1, ↓x_dget, ↓x_din, ↓x_dni, ↓x_dput, ↓x_dpop2, ↓r_isB, ↓r_notB, ↓x_enum, ↓x_zip, ↓x_str, ↓x_strE, ↓r_inS, ↓r_ninS, wipe, List.map_cons, List.map_nil, ↓x_isT, ↓r_isiII, ↓r_isiBB, ↓r_isiIB, ↓r_isiSS, ↓r_neNS, ↓r_neSN, ↓r_neNN, ↓r_eqNS, ↓r_eqSN, ↓r_eqNN, ↓r_eqIS, ↓r_neIS, ↓r_neSI, ↓r_neBS, ↓r_eqBB, ↓r_neBB, ↓x_start, ↓x_K, ↓x_start0, ↓r_i0, ↓r_i, ↓r_u, ↓r_addI, ↓r_addS, ↓r_mulI, ↓r_mulS, ↓r_eqI, ↓r_neI, ↓r_eqS, ↓r_neS, ↓r_absI, ↓r_intI, ↓r_intB, List.length_cons, List.length_nil, List.replicate, List.set_cons_zero, List.set_cons_succ, decide_eq_true_eq, Bool.not_eq_true', decide_eq_false_iff_not, if_true, if_false, Bool.false_eq_true, Bool.true_eq_false, ite_true, ite_false, Bool.not_true, Bool.not_false, c_div, n_ten, c_pow, not_true_eq_false, not_false_eq_true, decide_true, decide_false, true_and, and_true, and_self, true_or, or_true, Int.reduceLT, Int.reduceLE, Int.reduceMul, Int.reduceAdd, Int.reduceSub, Int.reducePow, Int.reduceNeg, Int.reduceDiv, Int.reduceMod, Nat.reducePow, Int.reduceToNat, Int.reduceEq, Int.reduceNe, Nat.reduceLT, Nat.reduceLeDiff, Nat.reduceAdd, ↓x_whole, ↓x_kind])
/-! ## areas -/
/-- where the parts stand; what they hold: fl: the second half is young -/
structure ArA where
  (a dx m mx l o ox p px q qx : Addr)
structure ArS where
  (ws : List Int) (n k ot t1 t2 : Nat) (fl : Bool)
def ArA.y (A : ArA) (f : Bool) : Addr := if f then A.q else A.p
structure ArO (K : PySem.W.Frag) (H : Hp) (A : ArA) (S : ArS) : Prop where
  ob : H A.a = some (.ins (He.ga K "Areas") A.dx (F_Areas (.ref A.m) (.ref A.o) (.ref (A.y S.fl)) (.ref (A.y !S.fl))))
  me : MemO K H A.m A.mx A.l S.ws
  vw : Vw S.ws
  ln : S.ws.length = S.n + 2 * S.k
  so : SpO K H A.o A.ox 0 S.n S.ot
  sp : SpO K H A.p A.px S.n (S.n + S.k) S.t1
  sq : SpO K H A.q A.qx (S.n + S.k) (S.n + 2 * S.k) S.t2
  nop : A.o ≠ A.p
  noq : A.o ≠ A.q
  npq : A.p ≠ A.q
  lo : S.ot ≤ S.n
  l1 : S.n ≤ S.t1 ∧ S.t1 ≤ S.n + S.k
  l2 : S.n + S.k ≤ S.t2 ∧ S.t2 ≤ S.n + 2 * S.k
  gn : 4 ≤ S.n ∧ S.n ≤ 2000
  gk : 2 ≤ S.k ∧ S.k ≤ 500
theorem ArO.off {K H A S} (h : ArO K H A S) {c : Addr} {o : HO} (n : A.l ≠ c) (nc : ∀ C d fs, H c ≠ some (.ins C d fs)) : ArO K (upd H c o) A S := by
  have f : ∀ {b C d fs}, H b = some (.ins C d fs) → upd H c o b = some (.ins C d fs) := fun {b C d fs} g => (upd_ne (fun e => nc C d fs (by rw [← e]; exact g))).trans g
  exact { h with ob := f h.ob, me := ⟨f h.me.ob, (upd_ne n).trans h.me.ls, h.me.sz⟩, so := f h.so, sp := f h.sp, sq := f h.sq }
def ArA.mem (A : ArA) (c : Addr) : Prop := c = A.a ∨ c = A.l ∨ c = A.o ∨ c = A.p ∨ c = A.q
theorem ArO.same {K H H' A S} (h : ArO K H A S) (s : Same H H') : ArO K H' A S := { h with ob := s _ _ h.ob, me := h.me.same s, so := s _ _ h.so, sp := s _ _ h.sp, sq := s _ _ h.sq }
/-- begin, end, top of a half -/
def ArS.b (S : ArS) (f : Bool) : Nat := if f then S.n + S.k else S.n
def ArS.t (S : ArS) (f : Bool) : Nat := if f then S.t2 else S.t1
def ArS.put (S : ArS) (f : Bool) (t : Nat) : ArS := if f then { S with t2 := t } else { S with t1 := t }
def ArA.yx (A : ArA) (f : Bool) : Addr := if f then A.qx else A.px
theorem ArO.half {K H A S} (h : ArO K H A S) (f : Bool) : SpO K H (A.y f) (A.yx f) (S.b f) (S.b f + S.k) (S.t f) := by
  cases f
  · exact h.sp
  · have e : S.n + 2 * S.k = S.n + S.k + S.k := by omega
    have := h.sq
    rw [e] at this
    exact this
theorem ArO.lt {K H A S} (h : ArO K H A S) (f : Bool) : S.b f ≤ S.t f ∧ S.t f ≤ S.b f + S.k := by
  have := h.l1
  have := h.l2
  cases f
  · exact h.l1
  · show S.n + S.k ≤ S.t2 ∧ S.t2 ≤ S.n + S.k + S.k
    omega
theorem spv_ne {K dx b e t C d fs} (hc : C ≠ He.ga K "Space") : SpV K dx b e t ≠ .ins C d fs := fun z => by
  cases z
  exact hc rfl
theorem F_len_Areas {v0 v1 v2 v3 : V} : (F_Areas v0 v1 v2 v3).length = 4 := rfl
theorem ArO.na {K H A S} (h : ArO K H A S) {c cx : Addr} {b e t : Nat} (s : SpO K H c cx b e t) : A.a ≠ c ∧ A.m ≠ c ∧ A.l ≠ c :=
  ⟨ne_of h.ob s fun z => spv_fs (by rw [F_len_Areas]; decide) z.symm, ne_of h.me.ob s fun z => spv_fs (by rw [F_len_Memory]; decide) z.symm, ne_of h.me.ls s fun z => spv_lst z.symm⟩
theorem ArO.mput {K H A S} (h : ArO K H A S) {c cx : Addr} {b e t : Nat} {o : HO} (s : SpO K H c cx b e t) : MemO K (upd H c o) A.m A.mx A.l S.ws := by
  obtain ⟨-, n2, n3⟩ := h.na s
  exact ⟨by rw [upd_ne n2]; exact h.me.ob, by rw [upd_ne n3]; exact h.me.ls, h.me.sz⟩
theorem ArO.topOld {K H A S} (h : ArO K H A S) {t : Nat} (ht : t ≤ S.n) : ArO K (upd H A.o (SpV K A.ox 0 S.n t)) A { S with ot := t } :=
  { h with ob := by rw [upd_ne (h.na h.so).1]; exact h.ob, me := h.mput h.so, so := upd_same, sp := (upd_ne h.nop.symm).trans h.sp, sq := (upd_ne h.noq.symm).trans h.sq, lo := ht }
theorem ArO.topHalf {K H A S} (h : ArO K H A S) {f : Bool} {t : Nat} (h0 : S.b f ≤ t) (h1 : t ≤ S.b f + S.k) : ArO K (upd H (A.y f) (SpV K (A.yx f) (S.b f) (S.b f + S.k) t)) A (S.put f t) := by
  cases f
  · exact { h with ob := by rw [show A.y false = A.p from rfl, upd_ne (h.na h.sp).1]; exact h.ob, me := h.mput h.sp, so := (upd_ne h.nop).trans h.so, sp := upd_same, sq := (upd_ne h.npq.symm).trans h.sq, l1 := ⟨h0, h1⟩ }
  · have e : S.n + S.k + S.k = S.n + 2 * S.k := by omega
    have h0 : S.n + S.k ≤ t := h0
    have h1 : t ≤ S.n + S.k + S.k := h1
    exact { h with ob := by rw [show A.y true = A.q from rfl, upd_ne (h.na h.sq).1]; exact h.ob, me := h.mput h.sq, so := (upd_ne h.noq).trans h.so, sp := (upd_ne h.npq).trans h.sp, sq := by show SpO K _ A.q A.qx (S.n + S.k) (S.n + 2 * S.k) t; rw [← e]; exact upd_same, l2 := ⟨h0, by show t ≤ S.n + 2 * S.k; omega⟩ }
/-- the memory's words change -/
theorem ArO.words {K H H' A S} (h : ArO K H A S) {ws : List Int} (M : MemO K H' A.m A.mx A.l ws) (k : ∀ b o, b ≠ A.l → H b = some o → H' b = some o) (vw : Vw ws) (e : ws.length = S.ws.length) : ArO K H' A { S with ws := ws } :=
  { h with ob := k _ _ (ne_of h.ob h.me.ls (by intro z; cases z)) h.ob, me := M, vw := vw, ln := e.trans h.ln, so := k _ _ (h.na h.so).2.2.symm h.so, sp := k _ _ (h.na h.sp).2.2.symm h.sp, sq := k _ _ (h.na h.sq).2.2.symm h.sq }
theorem ArO.flip {K H A S} (h : ArO K H A S) : ArO K (upd H A.a (.ins (He.ga K "Areas") A.dx (F_Areas (.ref A.m) (.ref A.o) (.ref (A.y !S.fl)) (.ref (A.y S.fl))))) A { S with fl := !S.fl } := by
  have n : ∀ {c cx b e t}, SpO K H c cx b e t → c ≠ A.a := fun s => (h.na s).1.symm
  have nm : A.m ≠ A.a := ne_of h.me.ob h.ob fun z => by
    have e := congrArg List.length (HO.ins.inj z).2.2
    rw [F_len_Areas, F_len_Memory] at e
    cases e
  have nl : A.l ≠ A.a := ne_of h.me.ls h.ob (by intro z; cases z)
  exact { h with ob := by rw [upd_same]; simp, me := ⟨(upd_ne nm).trans h.me.ob, (upd_ne nl).trans h.me.ls, h.me.sz⟩, so := (upd_ne (n h.so)).trans h.so, sp := (upd_ne (n h.sp)).trans h.sp, sq := (upd_ne (n h.sq)).trans h.sq }
theorem ArO.put {K H A S} (h : ArO K H A S) {c : Addr} {xs : List V} {o : HO} (e : H c = some (.lst xs)) (n : A.l ≠ c) : ArO K (upd H c o) A S := by
  have f : ∀ {b o' C d fs}, H b = some o' → o' = .ins C d fs → upd H c o b = some o' := fun g g2 => (upd_ne (ne_of g e (by rw [g2]; intro z; cases z))).trans g
  exact { h with ob := f h.ob rfl, me := ⟨f h.me.ob rfl, (upd_ne n).trans h.me.ls, h.me.sz⟩, so := f h.so rfl, sp := f h.sp rfl, sq := f h.sq rfl }
/-- words of a cell that was laid -/
theorem layT_slot {ws : List Int} {i s t u : Nat} (hu : u < t) (hi : i + t < ws.length) : (layT ws i s t).getD (i + 1 + u) 0 = -1 := by
  induction t with
  | zero => omega
  | succ t ih =>
    rw [layT_succ, List.getD_eq_getElem?_getD]
    by_cases c : u = t
    · subst c
      rw [List.getElem?_set_self (by rw [layT_len]; omega)]
      rfl
    · rw [List.getElem?_set_ne (by omega), ← List.getD_eq_getElem?_getD, ih (by omega) (by omega)]
theorem kids_none {ws : List Int} {i : Nat} : ∀ {t : Nat}, (∀ u, u < t → ws.getD (i + 1 + u) 0 = -1) → kidsT ws i t = []
  | 0, _ => rfl
  | t + 1, h => by
    rw [kidsT_succ, kids_none (t := t) fun u hu => h u (by omega), h t (by omega)]
    rfl
def oldV : V → Option Nat
  | .int n => if 4 ≤ n ∧ n ≤ 2000 then some n.toNat else none
  | _ => none
def youngV : V → Option Nat
  | .int n => if 2 ≤ n ∧ n ≤ 500 then some n.toNat else none
  | _ => none
theorem oldV_int {n : Int} : oldV (.int n) = if 4 ≤ n ∧ n ≤ 2000 then some n.toNat else none := rfl
theorem youngV_int {n : Int} : youngV (.int n) = if 2 ≤ n ∧ n ≤ 500 then some n.toNat else none := rfl
theorem oldV_odd {H : Hp} {v : V} (h : Odd H v) : oldV v = none := by
  cases v with
  | int i => exact (odd_not h).elim
  | _ => rfl
theorem youngV_odd {H : Hp} {v : V} (h : Odd H v) : youngV v = none := by
  cases v with
  | int i => exact (odd_not h).elim
  | _ => rfl
/-- areas as they are made -/
def arS (n k : Nat) : ArS := ⟨List.replicate (n + 2 * k) (-1), n, k, 0, n, n + k, false⟩
def areaW (S : ArS) (n : Int) : V := if 0 ≤ n ∧ n < S.ot then .str "old" else if (S.b S.fl : Int) ≤ n ∧ n < S.t S.fl then .str "young" else .non
theorem areaW_is {S : ArS} {n : Int} : areaW S n = .str "old" ∨ areaW S n = .str "young" ∨ areaW S n = .non := by
  unfold areaW
  split
  · exact .inl rfl
  · split
    · exact .inr (.inl rfl)
    · exact .inr (.inr rfl)
def sp_Areas___init__ (K : PySem.W.Frag) : Sp := fun vs H Q E => ∃ a dx v z, vs = [.ref a, v, z] ∧ H a = some (.ins (He.ga K "Areas") dx []) ∧ Thing H v ∧ Thing H z ∧ match oldV v with
  | none => E (Ex K "BadCount") none H
  | some n => match youngV z with
    | none => E (Ex K "BadCount") none H
    | some k => ∀ A H', A.a = a → ArO K H' A (arS n k) → H A.l = none → H A.o = none → H A.p = none → H A.q = none → H A.m = none → (∀ b o, b ≠ a → H b = some o → H' b = some o) → Q .non H'
def sp_Areas_flip (K : PySem.W.Frag) : Sp := fun vs H Q _ => ∃ A S, vs = [.ref A.a] ∧ ArO K H A S ∧ ∀ H', ArO K H' A { S with fl := !S.fl } → (∀ b o, b ≠ A.a → H b = some o → H' b = some o) → Q .non H'
def sp_Areas_area_of (K : PySem.W.Frag) : Sp := fun vs H Q _ => ∃ A S n, vs = [.ref A.a, .int n] ∧ ArO K H A S ∧ Q (areaW S n) H
def endA (S : ArS) (old : Bool) : Nat := if old then S.n else S.b S.fl + S.k
def topA (S : ArS) (old : Bool) : Nat := if old then S.ot else S.t S.fl
def laidW (S : ArS) (old : Bool) (v : V) : Tk := match slotsW v with
  | none => .count
  | some s => if s + 1 ≤ endA S old - topA S old then .ok s else .room
/-- behind a cell that was laid -/
def laidY (S : ArS) (s : Nat) : ArS := { S.put S.fl (S.t S.fl + (s + 1)) with ws := layT S.ws (S.t S.fl) s s }
def laidS (S : ArS) (old : Bool) (s : Nat) : ArS := if old then { S with ot := S.ot + (s + 1), ws := (layT S.ws S.ot s s).set S.ot (2 * ((4 * s + 2 : Nat) : Int)) } else { S.put S.fl (S.t S.fl + (s + 1)) with ws := layT S.ws (S.t S.fl) s s }
def laidO (S : ArS) (s : Nat) : ArS := { S with ot := S.ot + (s + 1), ws := (layT S.ws S.ot s s).set S.ot (2 * ((4 * s + 2 : Nat) : Int)) }
def sp_Areas_lay_young (K : PySem.W.Frag) : Sp := fun vs H Q E => ∃ A S v, vs = [.ref A.a, v] ∧ ArO K H A S ∧ Thing H v ∧ match laidW S false v with
  | .count => E (Ex K "BadCount") none H
  | .room => E (Ex K "NoRoom") none H
  | .ok s => ∀ H', ArO K H' A (laidY S s) → (∀ b o, b ≠ A.l → b ≠ A.y S.fl → H b = some o → H' b = some o) → Q (.int (S.t S.fl)) H'
def sp_Areas_lay_old (K : PySem.W.Frag) : Sp := fun vs H Q E => ∃ A S v, vs = [.ref A.a, v] ∧ ArO K H A S ∧ Thing H v ∧ match laidW S true v with
  | .count => E (Ex K "BadCount") none H
  | .room => E (Ex K "NoRoom") none H
  | .ok s => ∀ H', ArO K H' A (laidO S s) → (∀ b o, b ≠ A.l → b ≠ A.o → H b = some o → H' b = some o) → Q (.int S.ot) H'
theorem laidS_head {S : ArS} {old : Bool} {s : Nat} (h : s ≤ 8) (hl : topA S old + s < S.ws.length) : headAt ((laidS S old s).ws.getD (topA S old) 0) = some (4 * s + if old then 2 else 0) := by
  cases old
  · show headAt ((layT S.ws (S.t S.fl) s s).getD (S.t S.fl) 0) = _
    have hl : S.t S.fl + s < S.ws.length := hl
    rw [layT_at (by omega), head_8 h]
    rfl
  · show headAt (((layT S.ws S.ot s s).set S.ot _).getD S.ot 0) = _
    have hl : S.ot + s < S.ws.length := hl
    rw [List.getD_eq_getElem?_getD, List.getElem?_set_self (by rw [layT_len]; omega)]
    show headAt (2 * ((4 * s + 2 : Nat) : Int)) = some (4 * s + 2)
    unfold headAt
    rw [word_num (by omega)]
    dsimp only
    rw [if_pos (by omega), Int.toNat_natCast]
theorem laidS_slot {S : ArS} {old : Bool} {s u : Nat} (hu : u < s) (hl : topA S old + s < S.ws.length) : (laidS S old s).ws.getD (topA S old + 1 + u) 0 = -1 := by
  cases old
  · exact layT_slot hu hl
  · show ((layT S.ws S.ot s s).set S.ot _).getD (S.ot + 1 + u) 0 = _
    rw [List.getD_eq_getElem?_getD, List.getElem?_set_ne (by omega), ← List.getD_eq_getElem?_getD]
    exact layT_slot hu hl
theorem laidS_len {S : ArS} {old : Bool} {s : Nat} : (laidS S old s).ws.length = S.ws.length := by
  cases old
  · exact layT_len
  · show ((layT S.ws S.ot s s).set S.ot _).length = _
    rw [List.length_set, layT_len]
section
variable {P : Program} {w : World} {K : PySem.W.Frag} {mg : Str → Option Value} {base : Heap}
theorem f_Areas___init__ (T : Tx K mg) : Mi P w K mg base 4 "Areas" ["self", "old_words", "young_words"] (sp_Areas___init__ K) := by
  have c_is_whole := f_is_whole (P := P) (w := w) (base := base) T
  have c_Memory___init__ := f_Memory___init__ (P := P) (w := w) (base := base) T
  have c_Space___init__ := f_Space___init__ (P := P) (w := w) (base := base) T
  refine T.mkMi 34 103 13 (d := d_Areas___init__) (N := ["self", "old_words", "young_words"]) (k := 3) rfl rfl rfl rfl rfl rfl sc_Areas___init__ (fun _ _ _ _ _ _ us hl => match us, hl with | [_, _, _], _ => rfl) (fun vs H Q E h => ?len) (fun cdv A outer s H vs Q E hr h => ⟨_,
      (pss_cons (ps_if (PW.pt (pw_or (pt_not (pt_val (pe_fn (takes_of rfl rfl rfl rfl) c_is_whole (hr.mono (by decide)) (by rfl) (pa_cons (pv 1) pa_nil)))) (pw_or1 (pt_not (pt_chain op_le op_le (pe_num (T.num 53) (by rfl)) (pv 1) (pe_num (T.num 54) (by rfl))))))) (pss_one (ps_raiseK (K := K) rfl rfl (takes_of rfl rfl rfl rfl) (T.says.fact 73 rfl) (T.glo 3) (by rfl))) pss_nil)
        (pss_cons (ps_if (PW.pt (pw_or (pt_not (pt_val (pe_fn (takes_of rfl rfl rfl rfl) c_is_whole (hr.mono (by decide)) (by rfl) (pa_cons (pv 2) pa_nil)))) (pw_or1 (pt_not (pt_chain op_le op_le (pe_num (T.num 55) (by rfl)) (pv 2) (pe_num (T.num 56) (by rfl))))))) (pss_one (ps_raiseK (K := K) rfl rfl (takes_of rfl rfl rfl rfl) (T.says.fact 73 rfl) (T.glo 3) (by rfl))) pss_nil)
        (pss_cons (ps_fldC (T.cls 102) (T.noat 108) (pv 0) (pe_mk (K := K) rfl (takes_of rfl rfl rfl rfl) c_Memory___init__ (hr.mono (by decide)) (by rfl) (pa_cons (pe_op op_gAdd (pv 1) (pe_op op_gMul pe_int (pv 2))) pa_nil)))
        (pss_cons (ps_fldC (T.cls 102) (T.noat 109) (pv 0) (pe_mk (K := K) rfl (takes_of rfl rfl rfl rfl) c_Space___init__ (hr.mono (by decide)) (by rfl) (pa_cons pe_int (pa_cons (pv 1) pa_nil))))
        (pss_cons (ps_fldC (T.cls 102) (T.noat 110) (pv 0) (pe_mk (K := K) rfl (takes_of rfl rfl rfl rfl) c_Space___init__ (hr.mono (by decide)) (by rfl) (pa_cons (pv 1) (pa_cons (pe_op op_gAdd (pv 1) (pv 2)) pa_nil))))
        (pss_one (ps_fldC (T.cls 102) (T.noat 111) (pv 0) (pe_mk (K := K) rfl (takes_of rfl rfl rfl rfl) c_Space___init__ (hr.mono (by decide)) (by rfl) (pa_cons (pe_op op_gAdd (pv 1) (pv 2)) (pa_cons (pe_op op_gAdd (pv 1) (pe_op op_gMul pe_int (pv 2))) pa_nil)))))))))), ?rd⟩)
  case len => first | exact len_Areas___init__ h | (repeat (first | (obtain ⟨rfl, _⟩ := h; rfl; done) | obtain ⟨_, h⟩ := h))
  case rd =>
    obtain ⟨a, dx, v, z, rfl, HA, tv, tz, h⟩ := h
    walk_at "w2"
    rcases tv with ⟨n, rfl⟩ | o
    · walk_at "w2"
      rw [oldV_int] at h
      split
      · split
        · rw [if_neg (by omega)] at h
          exact h
        · rw [if_pos (by omega)] at h
          dsimp only at h
          rcases tz with ⟨k, rfl⟩ | o
          · walk_at "w2"
            rw [youngV_int] at h
            split
            · split
              · rw [if_neg (by omega)] at h
                exact h
              · rw [if_pos (by omega)] at h
                obtain ⟨n, rfl⟩ := Int.eq_ofNat_of_zero_le (show 0 ≤ n by omega)
                obtain ⟨k, rfl⟩ := Int.eq_ofNat_of_zero_le (show 0 ≤ k by omega)
                rw [Int.toNat_natCast, Int.toNat_natCast] at h
                simp only [show (n : Int) + 2 * (k : Int) = ((n + 2 * k : Nat) : Int) from by omega, show (n : Int) + (k : Int) = ((n + k : Nat) : Int) from by omega]
                intro m mx nm nmx nem
                refine ⟨m, mx, _, rfl, upd_same, .inl ⟨_, rfl⟩, ?_⟩
                rw [sizeV_int, if_pos ⟨by omega, by omega⟩, Int.toNat_natCast]
                intro l H2 nl M1 k1
                have s1 := same_init nm nmx nem k1
                have ma : m ≠ a := (ne_of_none HA nm).symm
                have la : l ≠ a := ne_of M1.ls (s1 _ _ HA) (by intro z; cases z)
                refine ⟨rfl, a, dx, _, rfl, s1 _ _ HA, by decide, ?_⟩
                rw [pi_Areas_memory]
                have k3 : ∀ {o : HO} {c x}, c ≠ a → H2 c = some x → upd H2 a o c = some x := fun h g => by rw [upd_ne h]; exact g
                have a3 : upd H2 a (.ins (He.ga K "Areas") dx [(("memory" : Str), V.ref m)]) a = some (.ins (He.ga K "Areas") dx [(("memory" : Str), V.ref m)]) := upd_same
                have k3 := @k3 (.ins (He.ga K "Areas") dx [(("memory" : Str), V.ref m)])
                generalize upd H2 a (.ins (He.ga K "Areas") dx [(("memory" : Str), V.ref m)]) = H3 at a3 k3 ⊢
                intro o ox no nox noe
                have s4 := same_mk2 (o1 := .ins (He.ga K "Space") ox []) (o2 := SpV K ox 0 n 0) no nox
                have so : upd (upd (upd H3 ox (.own o)) o (.ins (He.ga K "Space") ox [])) o (SpV K ox 0 n 0) o = some (SpV K ox 0 n 0) := upd_same
                have oa : o ≠ a := (ne_of_none a3 no).symm
                refine ⟨o, ox, 0, n, rfl, upd_same, rfl, a, dx, _, rfl, s4 _ _ a3, by show 1 < 1000; decide, ?_⟩
                generalize upd (upd (upd H3 ox (.own o)) o (.ins (He.ga K "Space") ox [])) o (SpV K ox 0 n 0) = H4 at s4 so ⊢
                rw [pi_Areas_old]
                have k5 : ∀ {c x}, c ≠ a → H4 c = some x → upd H4 a (.ins (He.ga K "Areas") dx [(("memory" : Str), V.ref m), ("old", V.ref o)]) c = some x := fun h g => by rw [upd_ne h]; exact g
                have a5 : upd H4 a (.ins (He.ga K "Areas") dx [(("memory" : Str), V.ref m), ("old", V.ref o)]) a = some (.ins (He.ga K "Areas") dx [(("memory" : Str), V.ref m), ("old", V.ref o)]) := upd_same
                generalize upd H4 a (.ins (He.ga K "Areas") dx [(("memory" : Str), V.ref m), ("old", V.ref o)]) = H5 at k5 a5 ⊢
                intro p px np npx npe
                have s6 := same_mk2 (o1 := .ins (He.ga K "Space") px []) (o2 := SpV K px n (n + k) n) np npx
                have sp : upd (upd (upd H5 px (.own p)) p (.ins (He.ga K "Space") px [])) p (SpV K px n (n + k) n) p = some (SpV K px n (n + k) n) := upd_same
                have pa : p ≠ a := (ne_of_none a5 np).symm
                refine ⟨p, px, n, n + k, rfl, upd_same, rfl, ?_⟩
                first | refine ⟨.inl ⟨by decide, by decide⟩, ?_⟩ | skip
                refine ⟨a, dx, _, rfl, s6 _ _ a5, by show 2 < 1000; decide, ?_⟩
                generalize upd (upd (upd H5 px (.own p)) p (.ins (He.ga K "Space") px [])) p (SpV K px n (n + k) n) = H6 at s6 sp ⊢
                rw [pi_Areas_young]
                have k7 : ∀ {c x}, c ≠ a → H6 c = some x → upd H6 a (.ins (He.ga K "Areas") dx [(("memory" : Str), V.ref m), ("old", V.ref o), ("young", V.ref p)]) c = some x := fun h g => by rw [upd_ne h]; exact g
                have a7 : upd H6 a (.ins (He.ga K "Areas") dx [(("memory" : Str), V.ref m), ("old", V.ref o), ("young", V.ref p)]) a = some (.ins (He.ga K "Areas") dx [(("memory" : Str), V.ref m), ("old", V.ref o), ("young", V.ref p)]) := upd_same
                generalize upd H6 a (.ins (He.ga K "Areas") dx [(("memory" : Str), V.ref m), ("old", V.ref o), ("young", V.ref p)]) = H7 at k7 a7 ⊢
                walk_at "w2"
                first | refine ⟨.inl ⟨by decide, by decide⟩, ?_⟩ | skip
                intro q qx nq nqx nqe
                have s8 := same_mk2 (o1 := .ins (He.ga K "Space") qx []) (o2 := SpV K qx (n + k) (n + 2 * k) (n + k)) nq nqx
                have sq : upd (upd (upd H7 qx (.own q)) q (.ins (He.ga K "Space") qx [])) q (SpV K qx (n + k) (n + 2 * k) (n + k)) q = some (SpV K qx (n + k) (n + 2 * k) (n + k)) := upd_same
                have qa : q ≠ a := (ne_of_none a7 nq).symm
                refine ⟨q, qx, n + k, n + 2 * k, rfl, upd_same, rfl, a, dx, _, rfl, s8 _ _ a7, by show 3 < 1000; decide, ?_⟩
                generalize upd (upd (upd H7 qx (.own q)) q (.ins (He.ga K "Space") qx [])) q (SpV K qx (n + k) (n + 2 * k) (n + k)) = H8 at s8 sq ⊢
                rw [pi_Areas_spare]
                have k9 : ∀ {c x}, c ≠ a → H8 c = some x → upd H8 a (.ins (He.ga K "Areas") dx (F_Areas (.ref m) (.ref o) (.ref p) (.ref q))) c = some x := fun h g => by rw [upd_ne h]; exact g
                have k69 : ∀ {c x}, c ≠ a → H6 c = some x → upd H8 a (.ins (He.ga K "Areas") dx (F_Areas (.ref m) (.ref o) (.ref p) (.ref q))) c = some x := fun h g => k9 h (s8 _ _ (k7 h g))
                have k49 : ∀ {c x}, c ≠ a → H4 c = some x → upd H8 a (.ins (He.ga K "Areas") dx (F_Areas (.ref m) (.ref o) (.ref p) (.ref q))) c = some x := fun h g => k69 h (s6 _ _ (k5 h g))
                have k29 : ∀ {c x}, c ≠ a → H2 c = some x → upd H8 a (.ins (He.ga K "Areas") dx (F_Areas (.ref m) (.ref o) (.ref p) (.ref q))) c = some x := fun h g => k49 h (s4 _ _ (k3 h g))
                have nn : ∀ {Hi : Hp} {c : Addr}, (∀ {c x}, c ≠ a → H c = some x → Hi c = some x) → c ≠ a → Hi c = none → H c = none := fun {Hi c} k h g => by
                  cases e : H c with
                  | none => rfl
                  | some x =>
                    rw [k h e] at g
                    cases g
                refine h ⟨a, dx, m, mx, l, o, ox, p, px, q, qx⟩ _ rfl { ob := upd_same, me := ⟨k29 ma M1.ob, k29 la M1.ls, M1.sz⟩, vw := Vw.rep, ln := List.length_replicate, so := k49 oa so, sp := k69 pa sp, sq := k9 qa sq, nop := ?_, noq := ?_, npq := ?_, lo := Nat.zero_le _, l1 := ⟨Nat.le_refl _, Nat.le_add_right _ _⟩, l2 := ⟨Nat.le_refl _, by show n + k ≤ n + 2 * k; omega⟩, gn := ⟨by show 4 ≤ n; omega, by show n ≤ 2000; omega⟩, gk := ⟨by show 2 ≤ k; omega, by show k ≤ 500; omega⟩ } (none_of (same_mk nm nmx nem) nl) (nn (fun h g => k3 h (s1 _ _ g)) oa no) (nn (fun h g => k5 h (s4 _ _ (k3 h (s1 _ _ g)))) pa np) (nn (fun h g => k7 h (s6 _ _ (k5 h (s4 _ _ (k3 h (s1 _ _ g)))))) qa nq) nm fun c x h g => k29 h (s1 _ _ g)
                · exact ne_of_none (k5 oa so) np
                · exact ne_of_none (k7 oa (s6 _ _ (k5 oa so))) nq
                · exact ne_of_none (k7 pa sp) nq
            · rw [if_neg (by omega)] at h
              exact h
          · rw [odd_whole o]
            rw [youngV_odd o] at h
            walk_at "w2"
            exact h
      · rw [if_neg (by omega)] at h
        exact h
    · rw [odd_whole o]
      rw [oldV_odd o] at h
      walk_at "w2"
      exact h
theorem f_Areas_flip (T : Tx K mg) : Mt P w K mg base 1 "Areas" "flip" ["self"] (sp_Areas_flip K) := by
  refine T.mkMt 35 104 102 (d := d_Areas_flip) (N := ["self", "kept"]) (k := 0) rfl rfl rfl rfl rfl rfl sc_Areas_flip (fun _ _ _ _ _ _ us hl => match us, hl with | [_], _ => rfl) (fun vs H Q E h => ?len) (fun cdv A outer s H vs Q E hr h => ⟨_,
      (pss_cons (ps_set (i := 1) sc_Areas_flip.nd rfl (Or.inl rfl) (pe_fldC (T.cls 102) (T.noat 110) (pv 0)))
        (pss_cons (ps_fldC (T.cls 102) (T.noat 110) (pv 0) (pe_fldC (T.cls 102) (T.noat 111) (pv 0)))
        (pss_one (ps_fldC (T.cls 102) (T.noat 111) (pv 0) (pv 1))))), ?rd⟩)
  case len => first | exact len_Areas_flip h | (repeat (first | (obtain ⟨rfl, _⟩ := h; rfl; done) | obtain ⟨_, h⟩ := h))
  case rd =>
    obtain ⟨A, S, rfl, I, q⟩ := h
    walk_at "w2"
    refine ⟨_, fldIs I.ob, _, fldIs I.ob, A.a, A.dx, _, rfl, I.ob, by show 4 < 1000; decide, ?_⟩
    rw [pf_Areas_young]
    refine ⟨A.a, A.dx, _, rfl, upd_same, by show 4 < 1000; decide, ?_⟩
    rw [pf_Areas_spare, upd_upd]
    exact q _ I.flip fun b o h g => by rw [upd_ne h]; exact g
theorem f_Areas_area_of (T : Tx K mg) : Mt P w K mg base 2 "Areas" "area_of" ["self", "at"] (sp_Areas_area_of K) := by
  have c_Space_has := f_Space_has (P := P) (w := w) (base := base) T
  refine T.mkMt 36 105 102 (d := d_Areas_area_of) (N := ["self", "at"]) (k := 1) rfl rfl rfl rfl rfl rfl sc_Areas_area_of (fun _ _ _ _ _ _ us hl => match us, hl with | [_, _], _ => rfl) (fun vs H Q E h => ?len) (fun cdv A outer s H vs Q E hr h => ⟨_,
      (pss_cons (ps_if (pt_val (pe_mt (K := K) rfl (takes_of rfl rfl rfl rfl) (pe_fldC (T.cls 102) (T.noat 109) (pv 0)) c_Space_has (hr.mono (by decide)) (pa_cons (pv 1) pa_nil))) (pss_one (ps_ret pe_str)) pss_nil)
        (pss_cons (ps_if (pt_val (pe_mt (K := K) rfl (takes_of rfl rfl rfl rfl) (pe_fldC (T.cls 102) (T.noat 110) (pv 0)) c_Space_has (hr.mono (by decide)) (pa_cons (pv 1) pa_nil))) (pss_one (ps_ret pe_str)) pss_nil)
        (pss_one (ps_ret pe_non)))), ?rd⟩)
  case len => first | exact len_Areas_area_of h | (repeat (first | (obtain ⟨rfl, _⟩ := h; rfl; done) | obtain ⟨_, h⟩ := h))
  case rd =>
    obtain ⟨A, S, n, rfl, I, h⟩ := h
    unfold areaW at h
    walk_at "w2"
    refine ⟨_, fldIs I.ob, recv I.so, A.o, A.ox, _, _, _, n, rfl, I.so, ?_⟩
    walk_at "w2"
    split
    · rw [if_pos (by assumption)] at h
      exact h
    · rw [if_neg (by assumption)] at h
      have hf := I.half S.fl
      refine ⟨_, fldIs I.ob, recv hf, _, _, _, _, _, n, rfl, hf, ?_⟩
      walk_at "w2"
      ((repeat' split) <;> (repeat' split at h) <;> first | exact h | (exfalso; omega))
theorem f_Areas_lay_young (T : Tx K mg) : Mt P w K mg base 5 "Areas" "lay_young" ["self", "slots"] (sp_Areas_lay_young K) := by
  have c_need_slots := f_need_slots (P := P) (w := w) (base := base) T
  have c_Space_take := f_Space_take (P := P) (w := w) (base := base) T
  have c_lay := f_lay (P := P) (w := w) (base := base) T
  refine T.mkMt 37 106 102 (d := d_Areas_lay_young) (N := ["self", "slots", "at"]) (k := 4) rfl rfl rfl rfl rfl rfl sc_Areas_lay_young (fun _ _ _ _ _ _ us hl => match us, hl with | [_, _], _ => rfl) (fun vs H Q E h => ?len) (fun cdv A outer s H vs Q E hr h => ⟨_,
      (pss_cons (ps_expr (pe_fn (takes_of rfl rfl rfl rfl) c_need_slots (hr.mono (by decide)) (by rfl) (pa_cons (pv 1) pa_nil)))
        (pss_cons (ps_set (i := 2) sc_Areas_lay_young.nd rfl (Or.inl rfl) (pe_mt (K := K) rfl (takes_of rfl rfl rfl rfl) (pe_fldC (T.cls 102) (T.noat 110) (pv 0)) c_Space_take (hr.mono (by decide)) (pa_cons (pe_op op_gAdd (pv 1) pe_int) pa_nil)))
        (pss_cons (ps_expr (pe_fn (takes_of rfl rfl rfl rfl) c_lay (hr.mono (by decide)) (by rfl) (pa_cons (pe_fldC (T.cls 102) (T.noat 108) (pv 0)) (pa_cons (pv 2) (pa_cons (pv 1) pa_nil)))))
        (pss_one (ps_ret (pv 2)))))), ?rd⟩)
  case len => first | exact len_Areas_lay_young h | (repeat (first | (obtain ⟨rfl, _⟩ := h; rfl; done) | obtain ⟨_, h⟩ := h))
  case rd =>
    obtain ⟨A, S, v, rfl, I, th, h⟩ := h
    have hf := I.half S.fl
    have hl := I.lt S.fl
    walk_at "w2"
    refine ⟨v, rfl, th, ?_⟩
    unfold laidW at h
    cases es : slotsW v with
    | none =>
      rw [es] at h
      exact h
    | some s =>
      rw [es] at h
      obtain ⟨rfl, s8⟩ := slotsW_some es
      dsimp only at h ⊢
      refine ⟨_, fldIs I.ob, recv hf, _, _, _, _, _, _, rfl, hf, .inl ⟨_, rfl⟩, ?_⟩
      rw [takeW_int, if_neg (by omega)]
      by_cases c' : s + 1 ≤ endA S false - topA S false
      · have c : s + 1 ≤ S.b S.fl + S.k - S.t S.fl := c'
        rw [if_pos c'] at h
        have et : ((s : Int) + 1).toNat = s + 1 := by omega
        rw [if_neg (by omega), et]
        have I2 := I.topHalf (f := S.fl) (t := S.t S.fl + (s + 1)) (by omega) (by omega)
        dsimp only
        refine ⟨_, fldIs I2.ob, A.m, A.mx, A.l, _, _, _, rfl, I2.me, .inl ⟨_, rfl⟩, .inl ⟨_, rfl⟩, ?_⟩
        have ew : (S.put S.fl (S.t S.fl + (s + 1))).ws = S.ws := by unfold ArS.put; split <;> rfl
        have hlen := I.ln
        have hb : S.b S.fl + S.k ≤ S.n + 2 * S.k := by unfold ArS.b; split <;> omega
        rw [slotsW_int, if_pos ⟨by omega, by omega⟩, Int.toNat_natCast]
        dsimp only
        rw [ew, placeOf_int, if_pos ⟨by omega, by omega⟩, Int.toNat_natCast]
        dsimp only
        intro H' M k
        refine h H' (I2.words M k (layT_vw I.vw s8) (by rw [layT_len, ew])) fun b o h1 h2 g => k b o h1 (by rw [upd_ne h2]; exact g)
      · have c : ¬ s + 1 ≤ S.b S.fl + S.k - S.t S.fl := c'
        rw [if_neg c'] at h
        rw [if_pos (by omega)]
        exact h
theorem f_Areas_lay_old (T : Tx K mg) : Mt P w K mg base 7 "Areas" "lay_old" ["self", "slots"] (sp_Areas_lay_old K) := by
  have c_need_slots := f_need_slots (P := P) (w := w) (base := base) T
  have c_Space_take := f_Space_take (P := P) (w := w) (base := base) T
  have c_lay := f_lay (P := P) (w := w) (base := base) T
  have c_aged := f_aged (P := P) (w := w) (base := base) T
  refine T.mkMt 38 107 102 (d := d_Areas_lay_old) (N := ["self", "slots", "at"]) (k := 6) rfl rfl rfl rfl rfl rfl sc_Areas_lay_old (fun _ _ _ _ _ _ us hl => match us, hl with | [_, _], _ => rfl) (fun vs H Q E h => ?len) (fun cdv A outer s H vs Q E hr h => ⟨_,
      (pss_cons (ps_expr (pe_fn (takes_of rfl rfl rfl rfl) c_need_slots (hr.mono (by decide)) (by rfl) (pa_cons (pv 1) pa_nil)))
        (pss_cons (ps_set (i := 2) sc_Areas_lay_old.nd rfl (Or.inl rfl) (pe_mt (K := K) rfl (takes_of rfl rfl rfl rfl) (pe_fldC (T.cls 102) (T.noat 109) (pv 0)) c_Space_take (hr.mono (by decide)) (pa_cons (pe_op op_gAdd (pv 1) pe_int) pa_nil)))
        (pss_cons (ps_expr (pe_fn (takes_of rfl rfl rfl rfl) c_lay (hr.mono (by decide)) (by rfl) (pa_cons (pe_fldC (T.cls 102) (T.noat 108) (pv 0)) (pa_cons (pv 2) (pa_cons (pv 1) pa_nil)))))
        (pss_cons (ps_expr (pe_fn (takes_of rfl rfl rfl rfl) c_aged (hr.mono (by decide)) (by rfl) (pa_cons (pe_fldC (T.cls 102) (T.noat 108) (pv 0)) (pa_cons (pv 2) (pa_cons (pe_num (T.num 51) (by rfl)) pa_nil)))))
        (pss_one (ps_ret (pv 2))))))), ?rd⟩)
  case len => first | exact len_Areas_lay_old h | (repeat (first | (obtain ⟨rfl, _⟩ := h; rfl; done) | obtain ⟨_, h⟩ := h))
  case rd =>
    obtain ⟨A, S, v, rfl, I, th, h⟩ := h
    have hl := I.lo
    walk_at "w2"
    refine ⟨v, rfl, th, ?_⟩
    unfold laidW at h
    cases es : slotsW v with
    | none =>
      rw [es] at h
      exact h
    | some s =>
      rw [es] at h
      obtain ⟨rfl, s8⟩ := slotsW_some es
      dsimp only at h ⊢
      refine ⟨_, fldIs I.ob, recv I.so, _, _, _, _, _, _, rfl, I.so, .inl ⟨_, rfl⟩, ?_⟩
      rw [takeW_int, if_neg (by omega)]
      by_cases c' : s + 1 ≤ endA S true - topA S true
      · have c : s + 1 ≤ S.n - S.ot := c'
        rw [if_pos c'] at h
        have et : ((s : Int) + 1).toNat = s + 1 := by omega
        rw [if_neg (by omega), et]
        have I2 := I.topOld (t := S.ot + (s + 1)) (by omega)
        have hlen := I.ln
        have hz := I.me.sz
        dsimp only
        refine ⟨_, fldIs I2.ob, A.m, A.mx, A.l, _, _, _, rfl, I2.me, .inl ⟨_, rfl⟩, .inl ⟨_, rfl⟩, ?_⟩
        rw [slotsW_int, if_pos ⟨by omega, by omega⟩, Int.toNat_natCast]
        dsimp only
        rw [placeOf_int, if_pos ⟨by omega, by omega⟩, Int.toNat_natCast]
        dsimp only
        intro H' M k
        have I3 := I2.words M k (layT_vw I.vw s8) layT_len
        walk_at "w2"
        refine ⟨_, fldIs I3.ob, A.m, A.mx, A.l, _, _, _, rfl, I3.me, I3.vw, .inl ⟨_, rfl⟩, .inl ⟨_, rfl⟩, ?_⟩
        have eH : headW (layT S.ws S.ot s s) (.int (S.ot : Int)) = .ok S.ot (4 * s) := by
          unfold headW
          rw [layT_len, placeOf_int, if_pos ⟨by omega, by omega⟩, Int.toNat_natCast]
          dsimp only
          rw [layT_at (by omega), head_8 s8]
        rw [eH, ageW_int, if_pos (by decide)]
        dsimp only
        have e4 : 4 * (4 * s / 4) + (2 : Int).toNat = 4 * s + 2 := by
          show 4 * (4 * s / 4) + 2 = 4 * s + 2
          omega
        rw [e4]
        have M3 := I3.me.put ((layT S.ws S.ot s s).set S.ot (2 * ((4 * s + 2 : Nat) : Int))) (List.length_set ..)
        walk_at "w2"
        refine h _ (I3.words M3 (fun b o h g => by rw [upd_ne h]; exact g) (I3.vw.set (by rw [word_num (by omega)]; rfl)) (List.length_set ..)) fun b o h1 h2 g => by rw [upd_ne h1]; exact k b o h1 (by rw [upd_ne h2]; exact g)
      · have c : ¬ s + 1 ≤ S.n - S.ot := c'
        rw [if_neg c'] at h
        rw [if_pos (by omega)]
        exact h
end

/-! ## books -/
def bk (ps : List Int) : List (Key × V) := ps.map fun i => (.inl i, .bl true)
def addP (ps : List Int) (i : Int) : List Int := if i ∈ ps then ps else ps ++ [i]
def delP (ps : List Int) (i : Int) : List Int := ps.filter fun j => decide (j ≠ i)
theorem val_bk {ps : List Int} {i : Int} : valV (bk ps) (.inl i : Key) = if i ∈ ps then some (.bl true) else none := by
  induction ps with
  | nil => rfl
  | cons j r ih =>
    by_cases e : j = i
    · subst e
      rw [if_pos (List.mem_cons_self)]
      exact valV_pos rfl
    · have e2 : ¬ ((.inl j : Key) = .inl i) := fun z => e (Sum.inl.inj z)
      refine (valV_neg (p := ((.inl j : Key), V.bl true)) (r := bk r) e2).trans (ih.trans ?_)
      by_cases c : i ∈ r
      · rw [if_pos c, if_pos (List.mem_cons_of_mem _ c)]
      · rw [if_neg c, if_neg fun z => (List.mem_cons.mp z).elim (fun q => e q.symm) c]
theorem put_bk {ps : List Int} {i : Int} : putK (bk ps) (.inl i : Key) (.bl true) = bk (addP ps i) := by
  unfold putK addP
  rw [valV_any, val_bk]
  by_cases c : i ∈ ps
  · rw [if_pos c, if_pos c, if_pos (show (some (V.bl true)).isSome = true from rfl)]
    unfold bk
    rw [List.map_map]
    refine List.map_congr_left fun j _ => ?_
    show (if (.inl j : Key) = .inl i then ((.inl j : Key), V.bl true) else ((.inl j : Key), V.bl true)) = _
    rw [ite_self]
  · rw [if_neg c, if_neg c, if_neg (by decide)]
    unfold bk
    rw [List.map_append]
    rfl
theorem drop_bk {ps : List Int} {i : Int} : dropK (bk ps) (.inl i : Key) = bk (delP ps i) := by
  unfold dropK delP bk
  rw [List.filter_map]
  congr 1
  refine List.filter_congr fun j _ => ?_
  show decide ((.inl j : Key) ≠ .inl i) = decide (j ≠ i)
  by_cases e : j = i
  · subst e
    rw [decide_eq_false (by simp), decide_eq_false (by simp)]
  · have e2 : (.inl j : Key) ≠ .inl i := fun z => e (Sum.inl.inj z)
    rw [decide_eq_true e2, decide_eq_true e]
theorem key_bk {ps : List Int} : (bk ps).map (fun kv => kV kv.1) = ps.map V.int := by
  unfold bk
  rw [List.map_map]
  rfl
theorem mem_addP {ps : List Int} {i j : Int} : j ∈ addP ps i ↔ j ∈ ps ∨ j = i := by
  unfold addP
  split
  · rename_i c
    exact ⟨.inl, fun h => h.elim id fun e => e ▸ c⟩
  · rw [List.mem_append, List.mem_singleton]
theorem nd_addP {ps : List Int} {i : Int} (h : ps.Nodup) : (addP ps i).Nodup := by
  unfold addP
  split
  · exact h
  · rename_i c
    refine List.nodup_append.mpr ⟨h, by simp, fun a ha b hb => ?_⟩
    rw [List.mem_singleton] at hb
    subst hb
    exact fun e => c (e ▸ ha)
theorem len_addP {ps : List Int} {i : Int} : (addP ps i).length ≤ ps.length + 1 := by
  unfold addP
  split
  · omega
  · rw [List.length_append]
    show ps.length + 1 ≤ ps.length + 1
    omega
theorem mem_delP {ps : List Int} {i j : Int} : j ∈ delP ps i ↔ j ∈ ps ∧ j ≠ i := by
  unfold delP
  rw [List.mem_filter, decide_eq_true_eq]
theorem nd_delP {ps : List Int} {i : Int} (h : ps.Nodup) : (delP ps i).Nodup := List.Pairwise.filter _ h
theorem len_delP {ps : List Int} {i : Int} : (delP ps i).length ≤ ps.length := List.length_filter_le ..
theorem sort_one {a b c d : List Int} (na : a.Nodup) (nb : b.Nodup) (m : ∀ i, i ∈ a ↔ i ∈ b) (ca : c.Perm a) (db : d.Perm b) (pc : c.Pairwise (· ≤ ·)) (pd : d.Pairwise (· ≤ ·)) : c = d :=
  List.Perm.eq_of_pairwise (fun _ _ _ _ h1 h2 => Int.le_antisymm h1 h2) pc pd (ca.trans (((List.perm_ext_iff_of_nodup na nb).mpr m).trans db.symm))
structure BookO (K : PySem.W.Frag) (H : Hp) (b dx d : Addr) (ps : List Int) : Prop where
  ob : H b = some (.ins (He.ga K "Book") dx (F_Book (.ref d)))
  ds : H d = some (.dK (bk ps))
  nd : ps.Nodup
theorem BookO.same {K H H' b dx d ps} (h : BookO K H b dx d ps) (s : Same H H') : BookO K H' b dx d ps := ⟨s _ _ h.ob, s _ _ h.ds, h.nd⟩
theorem BookO.ne {K H b dx d ps} (h : BookO K H b dx d ps) : b ≠ d := ne_of h.ob h.ds (by intro z; cases z)
theorem BookO.put {K H b dx d ps} (h : BookO K H b dx d ps) {qs : List Int} (n : qs.Nodup) : BookO K (upd H d (.dK (bk qs))) b dx d qs := ⟨by rw [upd_ne h.ne]; exact h.ob, upd_same, n⟩
def sp_Book___init__ (K : PySem.W.Frag) : Sp := fun vs H Q _ => ∃ b dx, vs = [.ref b] ∧ H b = some (.ins (He.ga K "Book") dx []) ∧ ∀ d H', H d = none → BookO K H' b dx d [] → (∀ c o, c ≠ b → H c = some o → H' c = some o) → Q .non H'
def sp_Book_write (K : PySem.W.Frag) : Sp := fun vs H Q E => ∃ b dx d ps v, vs = [.ref b, v] ∧ BookO K H b dx d ps ∧ ps.length < 1000000 ∧ Thing H v ∧ match placeW v with
  | some n => Q .non (upd H d (.dK (bk (addP ps n))))
  | none => E (Ex K "NoPlace") none H
def sp_Book_rub (K : PySem.W.Frag) : Sp := fun vs H Q E => ∃ b dx d ps v, vs = [.ref b, v] ∧ BookO K H b dx d ps ∧ Thing H v ∧ match placeW v with
  | some n => Q .non (upd H d (.dK (bk (delP ps n)))) ∧ (delP ps n = ps → Q .non H)
  | none => E (Ex K "NoPlace") none H
def sp_Book_has (K : PySem.W.Frag) : Sp := fun vs H Q E => ∃ b dx d ps v, vs = [.ref b, v] ∧ BookO K H b dx d ps ∧ Thing H v ∧ match placeW v with
  | some n => Q (.bl (decide (n ∈ ps))) H
  | none => E (Ex K "NoPlace") none H
def sp_Book_places (K : PySem.W.Frag) : Sp := fun vs H Q _ => ∃ b dx d ps, vs = [.ref b] ∧ BookO K H b dx d ps ∧ ps.length < 1000000 ∧ ∀ (ns : List Int) p H', ns.Perm ps → ns.Pairwise (· ≤ ·) → H p = none → Same H H' → H' p = some (.lst (ns.map V.int)) → Q (.ref p) H'
def sp_Book_clear (K : PySem.W.Frag) : Sp := fun vs H Q _ => ∃ b dx d ps, vs = [.ref b] ∧ BookO K H b dx d ps ∧ ∀ d' H', H d' = none → BookO K H' b dx d' [] → (∀ c o, c ≠ b → H c = some o → H' c = some o) → Q .non H'
section
variable {P : Program} {w : World} {K : PySem.W.Frag} {mg : Str → Option Value} {base : Heap}
theorem f_Book___init__ (T : Tx K mg) : Mi P w K mg base 1 "Book" ["self"] (sp_Book___init__ K) := by
  refine T.mkMi 39 113 14 (d := d_Book___init__) (N := ["self"]) (k := 0) rfl rfl rfl rfl rfl rfl sc_Book___init__ (fun _ _ _ _ _ _ us hl => match us, hl with | [_], _ => rfl) (fun vs H Q E h => ?len) (fun cdv A outer s H vs Q E hr h => ⟨_,
      (pss_one (ps_fldC (T.cls 112) (T.noat 119) (pv 0) pe_dnewK)), ?rd⟩)
  case len => obtain ⟨b, dx, rfl, _⟩ := h; rfl
  case rd =>
    obtain ⟨b, dx, rfl, M, q⟩ := h
    walk_at "w2"
    intro d hd
    have nb : b ≠ d := ne_of_none M hd
    refine ⟨b, dx, _, rfl, by rw [upd_ne nb]; exact M, by decide, ?_⟩
    rw [pi_Book_marks]
    exact q d _ hd ⟨upd_same, by rw [upd_ne nb.symm]; exact upd_same, List.nodup_nil⟩ fun c o hc e => by rw [upd_ne hc, upd_ne (ne_of_none e hd)]; exact e
theorem f_Book_write (T : Tx K mg) : Mt P w K mg base 3 "Book" "write" ["self", "place"] (sp_Book_write K) := by
  have c_place_word := f_place_word (P := P) (w := w) (base := base) T
  refine T.mkMt 40 114 112 (d := d_Book_write) (N := ["self", "place"]) (k := 2) rfl rfl rfl rfl rfl rfl sc_Book_write (fun _ _ _ _ _ _ us hl => match us, hl with | [_, _], _ => rfl) (fun vs H Q E h => ?len) (fun cdv A outer s H vs Q E hr h => ⟨_,
      (pss_cons (ps_expr (pe_fn (takes_of rfl rfl rfl rfl) c_place_word (hr.mono (by decide)) (by rfl) (pa_cons (pv 1) pa_nil)))
        (pss_one (ps_dput (hu_of hr) (pe_fldC (T.cls 112) (T.noat 119) (pv 0)) (pv 1) pe_bl rfl))), ?rd⟩)
  case len => obtain ⟨b, dx, d, ps, v, rfl, _⟩ := h; rfl
  case rd =>
    obtain ⟨b, dx, d, ps, v, rfl, B, hl, th, h⟩ := h
    walk_at "w2"
    rcases th with ⟨n, rfl⟩ | o
    · rw [x_place_word]
      rw [placeW_int] at h
      split
      · rename_i c
        rw [if_pos c] at h
        walk_at "w2"
        refine ⟨_, fldIs B.ob, ?_⟩
        walk_at "w2"
        refine ⟨_, dput_i B.ds (by unfold bk; rw [List.length_map, sizeLine_eq]; omega), ?_⟩
        rw [put_bk]
        exact h
      · rename_i c
        rw [if_neg c] at h
        exact h
    · rw [odd_place_word o]
      rw [placeW_odd o] at h
      exact h
theorem f_Book_rub (T : Tx K mg) : Mt P w K mg base 3 "Book" "rub" ["self", "place"] (sp_Book_rub K) := by
  have c_place_word := f_place_word (P := P) (w := w) (base := base) T
  refine T.mkMt 41 115 112 (d := d_Book_rub) (N := ["self", "place"]) (k := 2) rfl rfl rfl rfl rfl rfl sc_Book_rub (fun _ _ _ _ _ _ us hl => match us, hl with | [_, _], _ => rfl) (fun vs H Q E h => ?len) (fun cdv A outer s H vs Q E hr h => ⟨_,
      (pss_cons (ps_expr (pe_fn (takes_of rfl rfl rfl rfl) c_place_word (hr.mono (by decide)) (by rfl) (pa_cons (pv 1) pa_nil)))
        (pss_one (ps_expr (pe_dpop2 (pe_fldC (T.cls 112) (T.noat 119) (pv 0)) (pv 1) pe_non ⟨rfl, rfl, rfl, rfl⟩)))), ?rd⟩)
  case len => obtain ⟨b, dx, d, ps, v, rfl, _⟩ := h; rfl
  case rd =>
    obtain ⟨b, dx, d, ps, v, rfl, B, th, h⟩ := h
    walk_at "w2"
    rcases th with ⟨n, rfl⟩ | o
    · rw [x_place_word]
      rw [placeW_int] at h
      split
      · rename_i c
        rw [if_pos c] at h
        walk_at "w2"
        refine ⟨_, fldIs B.ob, ?_⟩
        walk_at "w2"
        refine ⟨isD_k B.ds, _, .inl n, B.ds, rfl, fun v e => ?_, fun e => ?_⟩
        · rw [drop_bk]
          exact h.1
        · refine h.2 ?_
          rw [val_bk] at e
          have ni : n ∉ ps := fun z => by rw [if_pos z] at e; cases e
          unfold delP
          rw [List.filter_eq_self]
          exact fun a ha => decide_eq_true fun z => ni (z ▸ ha)
      · rename_i c
        rw [if_neg c] at h
        exact h
    · rw [odd_place_word o]
      rw [placeW_odd o] at h
      exact h
theorem f_Book_has (T : Tx K mg) : Mt P w K mg base 3 "Book" "has" ["self", "place"] (sp_Book_has K) := by
  have c_place_word := f_place_word (P := P) (w := w) (base := base) T
  refine T.mkMt 42 116 112 (d := d_Book_has) (N := ["self", "place"]) (k := 2) rfl rfl rfl rfl rfl rfl sc_Book_has (fun _ _ _ _ _ _ us hl => match us, hl with | [_, _], _ => rfl) (fun vs H Q E h => ?len) (fun cdv A outer s H vs Q E hr h => ⟨_,
      (pss_cons (ps_expr (pe_fn (takes_of rfl rfl rfl rfl) c_place_word (hr.mono (by decide)) (by rfl) (pa_cons (pv 1) pa_nil)))
        (pss_one (ps_ret (pe_cmp (pc_din (hu_of hr) (pv 1) (pe_fldC (T.cls 112) (T.noat 119) (pv 0))))))), ?rd⟩)
  case len => obtain ⟨b, dx, d, ps, v, rfl, _⟩ := h; rfl
  case rd =>
    obtain ⟨b, dx, d, ps, v, rfl, B, th, h⟩ := h
    walk_at "w2"
    rcases th with ⟨n, rfl⟩ | o
    · rw [x_place_word]
      rw [placeW_int] at h
      split
      · rename_i c
        rw [if_pos c] at h
        walk_at "w2"
        refine ⟨_, fldIs B.ob, ?_⟩
        walk_at "w2"
        refine ⟨_, dget_i B.ds, ?_⟩
        rw [val_bk]
        have h : Q (V.bl (decide (n ∈ ps))) H := h
        by_cases m : n ∈ ps
        · rw [decide_eq_true m] at h
          rw [if_pos m]
          exact h
        · rw [decide_eq_false m] at h
          rw [if_neg m]
          exact h
      · rename_i c
        rw [if_neg c] at h
        exact h
    · rw [odd_place_word o]
      rw [placeW_odd o] at h
      exact h
theorem f_Book_places (T : Tx K mg) : Mt P w K mg base 1 "Book" "places" ["self"] (sp_Book_places K) := by
  refine T.mkMt 43 117 112 (d := d_Book_places) (N := ["self"]) (k := 0) rfl rfl rfl rfl rfl rfl sc_Book_places (fun _ _ _ _ _ _ us hl => match us, hl with | [_], _ => rfl) (fun vs H Q E h => ?len) (fun cdv A outer s H vs Q E hr h => ⟨_,
      (pss_one (ps_ret (pe_callB (call_sortedK (K := K) rfl) (by rfl) (T.free 63) (by decide +kernel) (pa_cons (pe_callTy (call_listD rfl) (by rfl) (T.free 68) (by decide +kernel) (pa_cons (pe_fldC (T.cls 112) (T.noat 119) (pv 0)) pa_nil)) pa_nil)))), ?rd⟩)
  case len => obtain ⟨b, dx, d, ps, rfl, _⟩ := h; rfl
  case rd =>
    obtain ⟨b, dx, d, ps, rfl, B, hl, q⟩ := h
    walk_at "w2"
    refine ⟨_, fldIs B.ob, d, _, rfl, .inl B.ds, fun p hp => ?_⟩
    rw [key_bk]
    have s1 := same_new (o := .lst (ps.map V.int)) hp
    refine ⟨p, ps, rfl, .of upd_same, fun ns r hp' hs hr => ?_⟩
    have s2 := same_new (o := .lst (ns.map V.int)) hr
    exact q ns r _ hp' hs (none_of s1 hr) (s1.trans s2) upd_same
end

local macro_rules | `(tactic| walk_at "w2") => `(tactic| try simp only [↓x_var0, ↓x_varS, ↓x_c, ↓x_op, ↓x_un, ↓x_cb, ↓x_nil, ↓x_cons, ↓x_test, ↓x_b, ↓x_ex, ↓x_and, ↓x_or, ↓x_not, ↓x_andV, ↓x_orV, ↓x_notV, ↓x_tif, ↓x_chain, ↓x_menu, ↓x_menuI, ↓x_lst, ↓x_tup, ↓x_dnew, ↓x_callW, ↓x_callN, ↓x_seq, ↓x_next, ↓x_ret, ↓x_retN, ↓x_drop, ↓x_ifS, ↓x_asg, ↓x_name, ↓x_raise, ↓x_fld, ↓x_setF, ↓x_meth, ↓x_make, ↓x_sub, ↓r_min, ↓r_max, ↓x_yes, ↓x_for, ↓x_lock, ↓x_keys, ↓x_cut, ↓x_lc, ↓x_rng1, ↓x_rng2, ↓x_lst1, ↓x_itup, ↓x_rng3, ↓x_three, ↓x_lstg, ↓x_tupg, ↓x_adrS, ↓x_one, ↓x_two, ↓x_adr, ↓x_sl, ↓x_np, ↓x_pt, ↓x_int, ↓x_bm, ↓x_bm0, ↓x_consg, ↓x_nilg, ↓x_dget2, ↓x_dget1, ↓x_dget, ↓x_din, ↓x_dni, ↓x_dput, ↓x_dpop2, ↓r_isB, ↓r_notB, ↓x_enum, ↓x_zip, ↓x_str, ↓x_strE, ↓r_inS, ↓r_ninS, wipe, List.map_cons, List.map_nil, ↓x_isT, ↓r_isiII, ↓r_isiBB, ↓r_isiIB, ↓r_isiSS, ↓r_neNS, ↓r_neSN, ↓r_neNN, ↓r_eqNS, ↓r_eqSN, ↓r_eqNN, ↓r_eqIS, ↓r_neIS, ↓r_neSI, ↓r_neBS, ↓r_eqBB, ↓r_neBB, ↓x_start, ↓x_K, ↓x_start0, ↓r_i0, ↓r_i, ↓r_u, ↓r_addI, ↓r_addS, ↓r_mulI, ↓r_mulS, ↓r_eqI, ↓r_neI, ↓r_eqS, ↓r_neS, ↓r_absI, ↓r_intI, ↓r_intB, List.length_cons, List.length_nil, List.replicate, List.set_cons_zero, List.set_cons_succ, decide_eq_true_eq, Bool.not_eq_true', decide_eq_false_iff_not, if_true, if_false, Bool.false_eq_true, Bool.true_eq_false, ite_true, ite_false, Bool.not_true, Bool.not_false, c_div, n_ten, c_pow, not_true_eq_false, not_false_eq_true, decide_true, decide_false, true_and, and_true, and_self, true_or, or_true, Int.reduceLT, Int.reduceLE, Int.reduceMul, Int.reduceAdd, Int.reduceSub, Int.reducePow, Int.reduceNeg, Int.reduceDiv, Int.reduceMod, Nat.reducePow, Int.reduceToNat, Int.reduceEq, Int.reduceNe, Nat.reduceLT, Nat.reduceLeDiff, Nat.reduceAdd, ↓x_whole, ↓x_kind])
/-! ## weak names -/
def flatN : V → Bool
  | .non => true
  | .int _ => true
  | _ => false
theorem flatN_I {v : V} (h : flatN v = true) : flatI v = true := by cases v <;> first | rfl | cases h
structure WeakO (K : PySem.W.Frag) (H : Hp) (w dx l : Addr) (ts : List V) : Prop where
  ob : H w = some (.ins (He.ga K "Weak") dx (F_Weak (.ref l)))
  ls : H l = some (.lst ts)
theorem WeakO.same {K H H' w dx l ts} (h : WeakO K H w dx l ts) (s : Same H H') : WeakO K H' w dx l ts := ⟨s _ _ h.ob, s _ _ h.ls⟩
theorem WeakO.ne {K H w dx l ts} (h : WeakO K H w dx l ts) : w ≠ l := ne_of h.ob h.ls (by intro z; cases z)
theorem WeakO.put {K H w dx l ts} (h : WeakO K H w dx l ts) {us : List V} : WeakO K (upd H l (.lst us)) w dx l us := ⟨by rw [upd_ne h.ne]; exact h.ob, upd_same⟩
/-- the names that are there, with their places -/
def pairsOf : Nat → List V → List (List V)
  | _, [] => []
  | k, v :: r => if v = .non then pairsOf (k + 1) r else [.int (k : Int), v] :: pairsOf (k + 1) r
theorem pairsOf_snoc {ts : List V} {v : V} : ∀ k, pairsOf k (ts ++ [v]) = pairsOf k ts ++ (if v = .non then [] else [[.int ((k + ts.length : Nat) : Int), v]]) := by
  induction ts with
  | nil =>
    intro k
    show (if v = .non then pairsOf (k + 1) [] else [.int (k : Int), v] :: pairsOf (k + 1) []) = _
    split <;> rfl
  | cons t r ih =>
    intro k
    show (if t = .non then pairsOf (k + 1) (r ++ [v]) else [.int (k : Int), t] :: pairsOf (k + 1) (r ++ [v])) = (if t = .non then pairsOf (k + 1) r else [.int (k : Int), t] :: pairsOf (k + 1) r) ++ _
    rw [ih (k + 1)]
    have e : k + 1 + r.length = k + (t :: r).length := by rw [List.length_cons]; omega
    rw [e]
    split <;> rfl
theorem pairsOf_len {ts : List V} : ∀ k, (pairsOf k ts).length ≤ ts.length := by
  induction ts with
  | nil => exact fun _ => Nat.le_refl _
  | cons t r ih =>
    intro k
    show (if t = .non then pairsOf (k + 1) r else [.int (k : Int), t] :: pairsOf (k + 1) r).length ≤ r.length + 1
    have := ih (k + 1)
    split
    · omega
    · show (pairsOf (k + 1) r).length + 1 ≤ r.length + 1
      omega
theorem pairsOf_mem {ts : List V} (fl : ∀ t ∈ ts, flatN t = true) : ∀ k, ∀ xs ∈ pairsOf k ts, ∃ i n : Int, xs = [.int i, .int n] := by
  induction ts with
  | nil => exact fun k xs h => (List.not_mem_nil h).elim
  | cons t r ih =>
    intro k xs h
    have h : xs ∈ (if t = .non then pairsOf (k + 1) r else [.int (k : Int), t] :: pairsOf (k + 1) r) := h
    have ih := ih (fun t h => fl t (List.mem_cons_of_mem _ h)) (k + 1) xs
    split at h
    · exact ih h
    · rename_i c
      rcases List.mem_cons.mp h with rfl | h
      · have f := fl t (List.mem_cons_self)
        cases t with
        | int n => exact ⟨_, _, rfl⟩
        | non => exact absurd rfl c
        | _ => cases f
      · exact ih h
def sp_Weak___init__ (K : PySem.W.Frag) : Sp := fun vs H Q _ => ∃ w dx, vs = [.ref w] ∧ H w = some (.ins (He.ga K "Weak") dx []) ∧ ∀ l H', H l = none → WeakO K H' w dx l [] → (∀ c o, c ≠ w → H c = some o → H' c = some o) → Q .non H'
def sp_Weak_name (K : PySem.W.Frag) : Sp := fun vs H Q E => ∃ w dx l ts v, vs = [.ref w, v] ∧ WeakO K H w dx l ts ∧ ts.length < 1000000 ∧ Thing H v ∧ match placeW v with
  | some n => Q (.int ts.length) (upd H l (.lst (ts ++ [.int n])))
  | none => E (Ex K "NoPlace") none H
def sp_Weak_need (K : PySem.W.Frag) : Sp := fun vs H Q E => ∃ w dx l ts v, vs = [.ref w, v] ∧ WeakO K H w dx l ts ∧ Thing H v ∧ match placeOf ts.length v with
  | some _ => Q .non H
  | none => E (Ex K "NoName") none H
def sp_Weak_at (K : PySem.W.Frag) : Sp := fun vs H Q E => ∃ w dx l ts v, vs = [.ref w, v] ∧ WeakO K H w dx l ts ∧ Thing H v ∧ match placeOf ts.length v with
  | some i => Q (ts.getD i .non) H
  | none => E (Ex K "NoName") none H
def sp_Weak_need_there (K : PySem.W.Frag) : Sp := fun vs H Q E => ∃ w dx l ts v, vs = [.ref w, v] ∧ WeakO K H w dx l ts ∧ Thing H v ∧ match placeOf ts.length v with
  | some i => if ts.getD i .non = .non then E (Ex K "NoName") none H else Q .non H
  | none => E (Ex K "NoName") none H
def sp_Weak_move (K : PySem.W.Frag) : Sp := fun vs H Q E => ∃ w dx l ts v z, vs = [.ref w, v, z] ∧ WeakO K H w dx l ts ∧ Thing H v ∧ Thing H z ∧ match placeOf ts.length v with
  | some i => if ts.getD i .non = .non then E (Ex K "NoName") none H else match placeW z with
    | some n => Q .non (upd H l (.lst (ts.set i (.int n))))
    | none => E (Ex K "NoPlace") none H
  | none => E (Ex K "NoName") none H
def sp_Weak_gone (K : PySem.W.Frag) : Sp := fun vs H Q E => ∃ w dx l ts v, vs = [.ref w, v] ∧ WeakO K H w dx l ts ∧ Thing H v ∧ match placeOf ts.length v with
  | some i => if ts.getD i .non = .non then E (Ex K "NoName") none H else Q .non (upd H l (.lst (ts.set i .non)))
  | none => E (Ex K "NoName") none H
def sp_Weak_names (K : PySem.W.Frag) : Sp := fun vs H Q _ => ∃ w dx l ts, vs = [.ref w] ∧ WeakO K H w dx l ts ∧ ts.length < 1000000 ∧ (∀ t ∈ ts, flatN t = true) ∧ ∀ p rs H', H p = none → Same H H' → H' p = some (.lst rs) → TupAll H' rs (pairsOf 0 ts) → Q (.ref p) H'
section
variable {P : Program} {w : World} {K : PySem.W.Frag} {mg : Str → Option Value} {base : Heap}
theorem f_Weak___init__ (T : Tx K mg) : Mi P w K mg base 1 "Weak" ["self"] (sp_Weak___init__ K) := by
  refine T.mkMi 57 138 17 (d := d_Weak___init__) (N := ["self"]) (k := 0) rfl rfl rfl rfl rfl rfl sc_Weak___init__ (fun _ _ _ _ _ _ us hl => match us, hl with | [_], _ => rfl) (fun vs H Q E h => ?len) (fun cdv A outer s H vs Q E hr h => ⟨_,
      (pss_one (ps_fldC (T.cls 137) (T.noat 146) (pv 0) (pe_lst pa_nil))), ?rd⟩)
  case len => obtain ⟨w', dx, rfl, _⟩ := h; rfl
  case rd =>
    obtain ⟨b, dx, rfl, M, q⟩ := h
    walk_at "w2"
    refine ⟨by omega, fun d hd => ?_⟩
    have nb : b ≠ d := ne_of_none M hd
    refine ⟨b, dx, _, rfl, by rw [upd_ne nb]; exact M, by decide, ?_⟩
    rw [pi_Weak_told]
    exact q d _ hd ⟨upd_same, by rw [upd_ne nb.symm]; exact upd_same⟩ fun c o hc e => by rw [upd_ne hc, upd_ne (ne_of_none e hd)]; exact e
theorem f_Weak_name (T : Tx K mg) : Mt P w K mg base 3 "Weak" "name" ["self", "at"] (sp_Weak_name K) := by
  have c_place_word := f_place_word (P := P) (w := w) (base := base) T
  refine T.mkMt 58 139 137 (d := d_Weak_name) (N := ["self", "at"]) (k := 2) rfl rfl rfl rfl rfl rfl sc_Weak_name (fun _ _ _ _ _ _ us hl => match us, hl with | [_, _], _ => rfl) (fun vs H Q E h => ?len) (fun cdv A outer s H vs Q E hr h => ⟨_,
      (pss_cons (ps_expr (pe_fn (takes_of rfl rfl rfl rfl) c_place_word (hr.mono (by decide)) (by rfl) (pa_cons (pv 1) pa_nil)))
        (pss_cons (ps_expr (pe_bm PySem.F.plainAttrs_list PySem.F.slot_list_append PySem.F.type_list_append mt_append (pe_fldC (T.cls 137) (T.noat 146) (pv 0)) (pa_cons (pv 1) pa_nil)))
        (pss_one (ps_ret (pe_op op_sub (pe_callB (call_lenK (K := K) rfl) (by rfl) (T.free 59) PySem.boot_len (pa_cons (pe_fldC (T.cls 137) (T.noat 146) (pv 0)) pa_nil)) pe_int))))), ?rd⟩)
  case len => obtain ⟨w', dx, l, ts, v, rfl, _⟩ := h; rfl
  case rd =>
    obtain ⟨b, dx, l, ts, v, rfl, B, hl, th, h⟩ := h
    walk_at "w2"
    rcases th with ⟨n, rfl⟩ | o
    · rw [x_place_word]
      rw [placeW_int] at h
      split
      · rename_i c
        rw [if_pos c] at h
        walk_at "w2"
        refine ⟨_, fldIs B.ob, r_app B.ls (by rw [sizeLine_eq]; omega) ?_⟩
        walk_at "w2"
        have B2 := B.put (us := ts ++ [.int n])
        refine ⟨_, fldIs B2.ob, r_lenL B2.ls ?_⟩
        walk_at "w2"
        have e : (((ts ++ [V.int n]).length : Nat) : Int) - 1 = (ts.length : Int) := by rw [List.length_append]; show ((ts.length + 1 : Nat) : Int) - 1 = _; omega
        rw [e]
        exact h
      · rename_i c
        rw [if_neg c] at h
        exact h
    · rw [odd_place_word o]
      rw [placeW_odd o] at h
      exact h
theorem f_Weak_need (T : Tx K mg) : Mt P w K mg base 2 "Weak" "need" ["self", "name"] (sp_Weak_need K) := by
  have c_is_whole := f_is_whole (P := P) (w := w) (base := base) T
  refine T.mkMt 59 140 137 (d := d_Weak_need) (N := ["self", "name"]) (k := 1) rfl rfl rfl rfl rfl rfl sc_Weak_need (fun _ _ _ _ _ _ us hl => match us, hl with | [_, _], _ => rfl) (fun vs H Q E h => ?len) (fun cdv A outer s H vs Q E hr h => ⟨_,
      (pss_one (ps_if (PW.pt (pw_or (pt_not (pt_val (pe_fn (takes_of rfl rfl rfl rfl) c_is_whole (hr.mono (by decide)) (by rfl) (pa_cons (pv 1) pa_nil)))) (pw_or1 (pt_not (pt_chain op_le op_lt pe_int (pv 1) (pe_callB (call_lenK (K := K) rfl) (by rfl) (T.free 59) PySem.boot_len (pa_cons (pe_fldC (T.cls 137) (T.noat 146) (pv 0)) pa_nil))))))) (pss_one (ps_raiseK (K := K) rfl rfl (takes_of rfl rfl rfl rfl) (T.says.fact 80 rfl) (T.glo 10) (by rfl))) pss_nil)), ?rd⟩)
  case len => obtain ⟨w', dx, l, ts, v, rfl, _⟩ := h; rfl
  case rd =>
    obtain ⟨b, dx, l, ts, v, rfl, B, th, h⟩ := h
    walk_at "w2"
    rcases th with ⟨n, rfl⟩ | o
    · walk_at "w2"
      rw [placeOf_int] at h
      split
      · refine ⟨_, fldIs B.ob, r_lenL B.ls ?_⟩
        walk_at "w2"
        split
        · rw [if_neg (by omega)] at h
          exact h
        · rw [if_pos (by omega)] at h
          exact h
      · rw [if_neg (by omega)] at h
        exact h
    · rw [odd_whole o]
      rw [placeOf_odd o] at h
      walk_at "w2"
      exact h
theorem f_Weak_at (T : Tx K mg) : Mt P w K mg base 3 "Weak" "at" ["self", "name"] (sp_Weak_at K) := by
  have c_Weak_need := f_Weak_need (P := P) (w := w) (base := base) T
  refine T.mkMt 60 141 137 (d := d_Weak_at) (N := ["self", "name"]) (k := 2) rfl rfl rfl rfl rfl rfl sc_Weak_at (fun _ _ _ _ _ _ us hl => match us, hl with | [_, _], _ => rfl) (fun vs H Q E h => ?len) (fun cdv A outer s H vs Q E hr h => ⟨_,
      (pss_cons (ps_expr (pe_mt (K := K) rfl (takes_of rfl rfl rfl rfl) (pv 0) c_Weak_need (hr.mono (by decide)) (pa_cons (pv 1) pa_nil)))
        (pss_one (ps_ret (pe_ix (ix_seqK (K := K) rfl) (pe_fldC (T.cls 137) (T.noat 146) (pv 0)) (pv 1) (fun _ _ => rfl))))), ?rd⟩)
  case len => obtain ⟨w', dx, l, ts, v, rfl, _⟩ := h; rfl
  case rd =>
    obtain ⟨b, dx, l, ts, v, rfl, B, th, h⟩ := h
    walk_at "w2"
    refine ⟨recv B.ob, b, dx, l, ts, v, rfl, B, th, ?_⟩
    cases e : placeOf ts.length v with
    | none =>
      rw [e] at h
      exact h
    | some i =>
      rw [e] at h
      obtain ⟨rfl, hi⟩ := placeOf_some e
      refine ⟨_, fldIs B.ob, ?_⟩
      exact r_ixL B.ls (by rw [List.getElem?_eq_getElem hi, List.getD_eq_getElem?_getD, List.getElem?_eq_getElem hi]; rfl) h
theorem f_Weak_need_there (T : Tx K mg) : Mt P w K mg base 3 "Weak" "need_there" ["self", "name"] (sp_Weak_need_there K) := by
  have c_Weak_need := f_Weak_need (P := P) (w := w) (base := base) T
  refine T.mkMt 61 142 137 (d := d_Weak_need_there) (N := ["self", "name"]) (k := 2) rfl rfl rfl rfl rfl rfl sc_Weak_need_there (fun _ _ _ _ _ _ us hl => match us, hl with | [_, _], _ => rfl) (fun vs H Q E h => ?len) (fun cdv A outer s H vs Q E hr h => ⟨_,
      (pss_cons (ps_expr (pe_mt (K := K) rfl (takes_of rfl rfl rfl rfl) (pv 0) c_Weak_need (hr.mono (by decide)) (pa_cons (pv 1) pa_nil)))
        (pss_one (ps_if (pt_cmpR op_isN (pe_ix (ix_seqK (K := K) rfl) (pe_fldC (T.cls 137) (T.noat 146) (pv 0)) (pv 1) (fun _ _ => rfl)) pe_non (nomark _)) (pss_one (ps_raiseK (K := K) rfl rfl (takes_of rfl rfl rfl rfl) (T.says.fact 80 rfl) (T.glo 10) (by rfl))) pss_nil))), ?rd⟩)
  case len => obtain ⟨w', dx, l, ts, v, rfl, _⟩ := h; rfl
  case rd =>
    obtain ⟨b, dx, l, ts, v, rfl, B, th, h⟩ := h
    walk_at "w2"
    refine ⟨recv B.ob, b, dx, l, ts, v, rfl, B, th, ?_⟩
    cases e : placeOf ts.length v with
    | none =>
      rw [e] at h
      exact h
    | some i =>
      rw [e] at h
      obtain ⟨rfl, hi⟩ := placeOf_some e
      have h : if ts.getD i .non = .non then E (Ex K "NoName") none H else Q .non H := h
      walk_at "w2"
      refine ⟨_, fldIs B.ob, ?_⟩
      refine r_ixL B.ls (v := ts.getD i .non) (by rw [List.getElem?_eq_getElem hi, List.getD_eq_getElem?_getD, List.getElem?_eq_getElem hi]; rfl) ?_
      walk_at "w2"
      exact h
theorem f_Weak_move (T : Tx K mg) : Mt P w K mg base 4 "Weak" "move" ["self", "name", "at"] (sp_Weak_move K) := by
  have c_Weak_need_there := f_Weak_need_there (P := P) (w := w) (base := base) T
  have c_place_word := f_place_word (P := P) (w := w) (base := base) T
  refine T.mkMt 62 143 137 (d := d_Weak_move) (N := ["self", "name", "at"]) (k := 3) rfl rfl rfl rfl rfl rfl sc_Weak_move (fun _ _ _ _ _ _ us hl => match us, hl with | [_, _, _], _ => rfl) (fun vs H Q E h => ?len) (fun cdv A outer s H vs Q E hr h => ⟨_,
      (pss_cons (ps_expr (pe_mt (K := K) rfl (takes_of rfl rfl rfl rfl) (pv 0) c_Weak_need_there (hr.mono (by decide)) (pa_cons (pv 1) pa_nil)))
        (pss_cons (ps_expr (pe_fn (takes_of rfl rfl rfl rfl) c_place_word (hr.mono (by decide)) (by rfl) (pa_cons (pv 2) pa_nil)))
        (pss_one (ps_asg (pv 2) (pg_sub (pe_fldC (T.cls 137) (T.noat 146) (pv 0)) (pv 1) set_list))))), ?rd⟩)
  case len => obtain ⟨w', dx, l, ts, v, z, rfl, _⟩ := h; rfl
  case rd =>
    obtain ⟨b, dx, l, ts, v, z, rfl, B, th, tz, h⟩ := h
    walk_at "w2"
    refine ⟨recv B.ob, b, dx, l, ts, v, rfl, B, th, ?_⟩
    cases e : placeOf ts.length v with
    | none =>
      rw [e] at h
      exact h
    | some i =>
      rw [e] at h
      obtain ⟨rfl, hi⟩ := placeOf_some e
      have h : if ts.getD i .non = .non then E (Ex K "NoName") none H else match placeW z with
        | some n => Q .non (upd H l (.lst (ts.set i (.int n))))
        | none => E (Ex K "NoPlace") none H := h
      show if ts.getD i .non = .non then _ else _
      split
      · rename_i c
        rw [if_pos c] at h
        exact h
      · rename_i c
        rw [if_neg c] at h
        walk_at "w2"
        rcases tz with ⟨n, rfl⟩ | o
        · rw [x_place_word]
          rw [placeW_int] at h
          split
          · rename_i c
            rw [if_pos c] at h
            walk_at "w2"
            refine ⟨_, fldIs B.ob, r_setL B.ls (by omega) (by omega) ?_⟩
            rw [Int.toNat_natCast]
            exact h
          · rename_i c
            rw [if_neg c] at h
            exact h
        · rw [odd_place_word o]
          rw [placeW_odd o] at h
          exact h
theorem f_Weak_gone (T : Tx K mg) : Mt P w K mg base 4 "Weak" "gone" ["self", "name"] (sp_Weak_gone K) := by
  have c_Weak_need_there := f_Weak_need_there (P := P) (w := w) (base := base) T
  refine T.mkMt 63 144 137 (d := d_Weak_gone) (N := ["self", "name"]) (k := 3) rfl rfl rfl rfl rfl rfl sc_Weak_gone (fun _ _ _ _ _ _ us hl => match us, hl with | [_, _], _ => rfl) (fun vs H Q E h => ?len) (fun cdv A outer s H vs Q E hr h => ⟨_,
      (pss_cons (ps_expr (pe_mt (K := K) rfl (takes_of rfl rfl rfl rfl) (pv 0) c_Weak_need_there (hr.mono (by decide)) (pa_cons (pv 1) pa_nil)))
        (pss_one (ps_asg pe_non (pg_sub (pe_fldC (T.cls 137) (T.noat 146) (pv 0)) (pv 1) set_list)))), ?rd⟩)
  case len => obtain ⟨w', dx, l, ts, v, rfl, _⟩ := h; rfl
  case rd =>
    obtain ⟨b, dx, l, ts, v, rfl, B, th, h⟩ := h
    walk_at "w2"
    refine ⟨recv B.ob, b, dx, l, ts, v, rfl, B, th, ?_⟩
    cases e : placeOf ts.length v with
    | none =>
      rw [e] at h
      exact h
    | some i =>
      rw [e] at h
      obtain ⟨rfl, hi⟩ := placeOf_some e
      have h : if ts.getD i .non = .non then E (Ex K "NoName") none H else Q .non (upd H l (.lst (ts.set i .non))) := h
      show if ts.getD i .non = .non then _ else _
      split
      · rename_i c
        rw [if_pos c] at h
        exact h
      · rename_i c
        rw [if_neg c] at h
        walk_at "w2"
        refine ⟨_, fldIs B.ob, r_setL B.ls (by omega) (by omega) ?_⟩
        rw [Int.toNat_natCast]
        exact h
theorem f_Weak_names (T : Tx K mg) : Mt P w K mg base 1 "Weak" "names" ["self"] (sp_Weak_names K) := by
  refine T.mkMt 64 145 137 (d := d_Weak_names) (N := ["self", "name", "at"]) (k := 0) rfl rfl rfl rfl rfl rfl sc_Weak_names (fun _ _ _ _ _ _ us hl => match us, hl with | [_], _ => rfl) (fun vs H Q E h => ?len) (fun cdv A outer s H vs Q E hr h => ⟨_,
      (pss_one (ps_ret (pe_lc (own := [("name", 1), ("at", 2)]) (g := gTup K 2 (gCons (gName 1) (gCons (gName 2) gNil))) rfl sc_Weak_names.nd (pi_enum (by rfl) (T.free 64) (pa_cons (pe_fldC (T.cls 137) (T.noat 146) (pv 0)) pa_nil)) (blkOk_by (own := [("name", 1), ("at", 2)]) (N := ["self", "name", "at"]) (sc := defScope s_Weak_names) (by decide +kernel)) (fun _ _ _ _ _ => (pg_tup (n := 2) rfl (pgs_cons (pg_name (i := 1) sc_Weak_names.nd rfl (Or.inl rfl)) (pgs_cons (pg_name (i := 2) sc_Weak_names.nd rfl (Or.inl rfl)) pgs_nil)))) (fun _ _ _ _ _ => pts_one (pt_cmpR op_notN (pv 2) pe_non (nomark _))) (fun _ _ _ _ _ => (pe_tup (pa_cons (pv 1) (pa_cons (pv 2) pa_nil))))))), ?rd⟩)
  case len => obtain ⟨w', dx, l, ts, rfl, _⟩ := h; rfl
  case rd =>
    obtain ⟨b, dx, l, ts, rfl, B, hl, fl, q⟩ := h
    walk_at "w2"
    refine ⟨_, fldIs B.ob, l, ts, rfl, .of B.ls, fun D hD => lc_it (walk_enum (xs := ts)) (Qd := fun H' => Q (.ref D) H') (fun i H' => ∃ rs, Same H H' ∧ H' D = some (.lst rs) ∧ TupAll H' rs (pairsOf 0 (ts.take i))) ⟨[], same_new hD, upd_same, .nil⟩ (fun i H' _ ⟨rs, s, _⟩ => .of (s _ _ B.ls)) ?_ ?_⟩
    · rintro i x H1 H' hi ⟨rs, s, hd, t⟩ ⟨T, y, z, rfl, hT, rfl, e1, e2⟩
      cases Option.some.inj e1
      have e2 : ts[i]? = some z := e2
      have sT := same_new (o := .tup [.int (i : Nat), z]) hT
      walk_at "w2"
      refine ⟨_, .inl (.inl upd_same), rfl, ?_⟩
      walk_at "w2"
      have ez : ts.take (i + 1) = ts.take i ++ [z] := by rw [List.take_add_one, e2]; rfl
      have el : (ts.take i).length = i := by rw [List.length_take]; omega
      have zm : z ∈ ts := List.mem_of_getElem? e2
      rw [ez, pairsOf_snoc, Nat.zero_add, el]
      by_cases c : z = .non
      · subst c
        rw [if_neg (fun z => z rfl), if_pos rfl, List.append_nil]
        exact ⟨rs, s.trans sT, sT _ _ hd, t.same sT⟩
      · rw [if_pos c, if_neg c]
        refine ⟨by rw [sizeLine_eq]; omega, fun p hp => ?_⟩
        have sp := same_new (o := .tup [.int (i : Nat), z]) hp
        have tl := t.len
        have pl := pairsOf_len (ts := ts.take i) 0
        have hd2 := (sT.trans sp) _ _ hd
        have nD : p ≠ D := (ne_of_none (sT _ _ hd) hp).symm
        refine ⟨rs, hd2, by rw [sizeLine_eq]; omega, _, ?_, upd_same, ?_⟩
        · exact fun c o e => by rw [upd_ne (ne_of_none e hD)]; exact (s.trans (sT.trans sp)) _ _ e
        · refine ((t.same (sT.trans sp)).put hd2 (by intro xs z; cases z)).snoc (by rw [upd_ne nD]; exact upd_same) fun x hx => ?_
          rcases List.mem_cons.mp hx with rfl | hx
          · rfl
          · rw [List.mem_singleton] at hx
            subst hx
            exact flatN_I (fl _ zm)
    · rintro H' ⟨rs, s, hd, t⟩
      rw [List.take_length] at t
      exact q D rs H' hD s hd t
end

local macro_rules | `(tactic| walk_at "w2") => `(tactic| try simp only [↓x_var0, ↓x_varS, ↓x_c, ↓x_op, ↓x_un, ↓x_cb, ↓x_nil, ↓x_cons, ↓x_test, ↓x_b, ↓x_ex, ↓x_and, ↓x_or, ↓x_not, ↓x_andV, ↓x_orV, ↓x_notV, ↓x_tif, ↓x_chain, ↓x_menu, ↓x_menuI, ↓x_lst, ↓x_tup, ↓x_dnew, ↓x_callW, ↓x_callN, ↓x_seq, ↓x_next, ↓x_ret, ↓x_retN, ↓x_drop, ↓x_ifS, ↓x_asg, ↓x_name, ↓x_raise, ↓x_fld, ↓x_setF, ↓x_meth, ↓x_make, ↓x_sub, ↓r_min, ↓r_max, ↓x_yes, ↓x_for, ↓x_lock, ↓x_keys, ↓x_cut, ↓x_lc, ↓x_rng1, ↓x_rng2, ↓x_lst1, ↓x_itup, ↓x_rng3, ↓x_three, ↓x_lstg, ↓x_tupg, ↓x_adrS, ↓x_one, ↓x_two, ↓x_adr, ↓x_sl, ↓x_np, ↓x_pt, ↓x_int, ↓x_bm, ↓x_bm0, ↓x_consg, ↓x_nilg, ↓x_dget2, ↓x_dget1, ↓x_dget, ↓x_din, ↓x_dni, ↓x_dput, ↓x_dpop2, ↓r_isB, ↓r_notB, ↓x_enum, ↓x_zip, ↓x_str, ↓x_strE, ↓r_inS, ↓r_ninS, wipe, List.map_cons, List.map_nil, ↓x_isT, ↓r_isiII, ↓r_isiBB, ↓r_isiIB, ↓r_isiSS, ↓r_neNS, ↓r_neSN, ↓r_neNN, ↓r_eqNS, ↓r_eqSN, ↓r_eqNN, ↓r_eqIS, ↓r_neIS, ↓r_neSI, ↓r_neBS, ↓r_eqBB, ↓r_neBB, ↓x_start, ↓x_K, ↓x_start0, ↓r_i0, ↓r_i, ↓r_u, ↓r_addI, ↓r_addS, ↓r_mulI, ↓r_mulS, ↓r_eqI, ↓r_neI, ↓r_eqS, ↓r_neS, ↓r_absI, ↓r_intI, ↓r_intB, List.length_cons, List.length_nil, List.replicate, List.set_cons_zero, List.set_cons_succ, decide_eq_true_eq, Bool.not_eq_true', decide_eq_false_iff_not, if_true, if_false, Bool.false_eq_true, Bool.true_eq_false, ite_true, ite_false, Bool.not_true, Bool.not_false, c_div, n_ten, c_pow, not_true_eq_false, not_false_eq_true, decide_true, decide_false, true_and, and_true, and_self, true_or, or_true, Int.reduceLT, Int.reduceLE, Int.reduceMul, Int.reduceAdd, Int.reduceSub, Int.reducePow, Int.reduceNeg, Int.reduceDiv, Int.reduceMod, Nat.reducePow, Int.reduceToNat, Int.reduceEq, Int.reduceNe, Nat.reduceLT, Nat.reduceLeDiff, Nat.reduceAdd, ↓x_whole, ↓x_kind])
/-! ## last words -/
/-- what waits: nothing, or a place and a number -/
structure WtAll (H : Hp) (rs : List V) (ws : List (Option (Int × Int))) : Prop where
  len : rs.length = ws.length
  non : ∀ i : Nat, ws[i]? = some none → rs[i]? = some V.non
  pair : ∀ (i : Nat) a n, ws[i]? = some (some (a, n)) → ∃ tp, rs[i]? = some (V.ref tp) ∧ H tp = some (.tup [.int a, .int n])
theorem WtAll.nil {H : Hp} : WtAll H [] [] := ⟨rfl, fun i e => (by cases e), fun i a n e => by cases e⟩
theorem WtAll.fr {H H' : Hp} {rs ws} (h : WtAll H rs ws) (s : ∀ c xs, H c = some (.tup xs) → H' c = some (.tup xs)) : WtAll H' rs ws := ⟨h.len, h.non, fun i a n e => let ⟨tp, e1, e2⟩ := h.pair i a n e; ⟨tp, e1, s _ _ e2⟩⟩
theorem WtAll.same {H H' : Hp} {rs ws} (h : WtAll H rs ws) (s : Same H H') : WtAll H' rs ws := h.fr fun c xs e => s _ _ e
theorem WtAll.put {H : Hp} {rs ws} {D : Addr} {o o' : HO} (h : WtAll H rs ws) (e : H D = some o) (n : ∀ xs, o ≠ .tup xs) : WtAll (upd H D o') rs ws := h.fr fun c xs e' => by rw [upd_ne (ne_of e' e fun z => n _ z.symm)]; exact e'
theorem WtAll.snoc {H : Hp} {rs ws} {tp : Addr} {a n : Int} (h : WtAll H rs ws) (e : H tp = some (.tup [.int a, .int n])) : WtAll H (rs ++ [.ref tp]) (ws ++ [some (a, n)]) := by
  have l := h.len
  refine ⟨by rw [List.length_append, List.length_append, l]; rfl, fun i q => ?_, fun i b m q => ?_⟩
  · rw [List.getElem?_append] at q ⊢
    rw [l]
    split at q
    · rw [if_pos ‹_›]
      exact h.non i q
    · cases h2 : i - ws.length with
      | zero => rw [h2] at q; cases q
      | succ k => rw [h2] at q; cases q
  · rw [List.getElem?_append] at q ⊢
    rw [l]
    split at q
    · rw [if_pos ‹_›]
      exact h.pair i b m q
    · rw [if_neg ‹_›]
      cases h2 : i - ws.length with
      | zero =>
        rw [h2] at q
        cases q
        exact ⟨tp, rfl, e⟩
      | succ k => rw [h2] at q; cases q
theorem WtAll.set {H : Hp} {rs ws} {j : Nat} {tp : Addr} {a n : Int} (h : WtAll H rs ws) (e : H tp = some (.tup [.int a, .int n])) : WtAll H (rs.set j (.ref tp)) (ws.set j (some (a, n))) := by
  have l := h.len
  refine ⟨by rw [List.length_set, List.length_set, l], fun i q => ?_, fun i b m q => ?_⟩
  · rw [List.getElem?_set] at q ⊢
    rw [l]
    split at q
    · split at q
      · cases q
      · cases q
    · rw [if_neg ‹_›]
      exact h.non i q
  · rw [List.getElem?_set] at q ⊢
    rw [l]
    split at q
    · rename_i c
      rw [if_pos c]
      split at q
      · cases q
        rw [if_pos ‹_›]
        exact ⟨tp, rfl, e⟩
      · cases q
    · rw [if_neg ‹_›]
      exact h.pair i b m q
theorem WtAll.rub {H : Hp} {rs ws} {j : Nat} (h : WtAll H rs ws) : WtAll H (rs.set j .non) (ws.set j none) := by
  have l := h.len
  refine ⟨by rw [List.length_set, List.length_set, l], fun i q => ?_, fun i b m q => ?_⟩
  · rw [List.getElem?_set] at q ⊢
    rw [l]
    split at q
    · rename_i c
      rw [if_pos c]
      split at q
      · rw [if_pos ‹_›]
      · cases q
    · rw [if_neg ‹_›]
      exact h.non i q
  · rw [List.getElem?_set] at q ⊢
    rw [l]
    split at q
    · split at q
      · cases q
      · cases q
    · rw [if_neg ‹_›]
      exact h.pair i b m q
def pendOf : Nat → List (Option (Int × Int)) → List (List V)
  | _, [] => []
  | k, none :: r => pendOf (k + 1) r
  | k, some (a, n) :: r => [.int (k : Int), .int a, .int n] :: pendOf (k + 1) r
def pendAt (k : Nat) : Option (Int × Int) → List (List V)
  | none => []
  | some (a, n) => [[.int (k : Int), .int a, .int n]]
theorem pendOf_snoc {ws : List (Option (Int × Int))} {w : Option (Int × Int)} : ∀ k, pendOf k (ws ++ [w]) = pendOf k ws ++ pendAt (k + ws.length) w := by
  induction ws with
  | nil =>
    intro k
    cases w <;> rfl
  | cons t r ih =>
    intro k
    have e : k + (t :: r).length = k + 1 + r.length := by rw [List.length_cons]; omega
    rw [e]
    cases t with
    | none => exact ih (k + 1)
    | some p => exact congrArg (_ :: ·) (ih (k + 1))
theorem pendOf_len {ws : List (Option (Int × Int))} : ∀ k, (pendOf k ws).length ≤ ws.length := by
  induction ws with
  | nil => exact fun _ => Nat.le_refl _
  | cons t r ih =>
    intro k
    have := ih (k + 1)
    cases t with
    | none =>
      show (pendOf (k + 1) r).length ≤ r.length + 1
      omega
    | some p =>
      show (pendOf (k + 1) r).length + 1 ≤ r.length + 1
      omega
theorem pendOf_mem {ws : List (Option (Int × Int))} : ∀ k, ∀ xs ∈ pendOf k ws, ∃ i a n : Int, xs = [.int i, .int a, .int n] := by
  induction ws with
  | nil => exact fun k xs h => (List.not_mem_nil h).elim
  | cons t r ih =>
    intro k xs h
    cases t with
    | none => exact ih (k + 1) xs h
    | some p =>
      rcases List.mem_cons.mp h with rfl | h
      · exact ⟨_, _, _, rfl⟩
      · exact ih (k + 1) xs h
def numW : V → Option Int
  | .int n => if (n.natAbs : Int) ≤ 1000000000000 then some n else none
  | _ => none
theorem numW_int {n : Int} : numW (.int n) = if (n.natAbs : Int) ≤ 1000000000000 then some n else none := rfl
theorem numW_odd {H : Hp} {v : V} (h : Odd H v) : numW v = none := by
  cases v with
  | int i => exact (odd_not h).elim
  | _ => rfl
theorem numW_some {v : V} {n : Int} (h : numW v = some n) : v = .int n ∧ (n.natAbs : Int) ≤ 1000000000000 := by
  cases v with
  | int j =>
    rw [numW_int] at h
    split at h
    · cases h
      exact ⟨rfl, ‹_›⟩
    · cases h
  | _ => cases h
structure LastO (K : PySem.W.Frag) (H : Hp) (b dx d e : Addr) (rs : List V) (ws : List (Option (Int × Int))) (ss : List Int) : Prop where
  ob : H b = some (.ins (He.ga K "Lasts") dx (F_Lasts (.ref d) (.ref e)))
  wa : H d = some (.lst rs)
  wt : WtAll H rs ws
  sk : H e = some (.lst (ss.map V.int))
  de : d ≠ e
theorem LastO.same {K H H' b dx d e rs ws ss} (h : LastO K H b dx d e rs ws ss) (s : Same H H') : LastO K H' b dx d e rs ws ss := ⟨s _ _ h.ob, s _ _ h.wa, h.wt.same s, s _ _ h.sk, h.de⟩
theorem LastO.putD {K H b dx d e rs ws ss rs' ws'} (h : LastO K H b dx d e rs ws ss) (t : WtAll H rs' ws') : LastO K (upd H d (.lst rs')) b dx d e rs' ws' ss :=
  ⟨by rw [upd_ne (ne_of h.ob h.wa (by intro z; cases z))]; exact h.ob, upd_same, t.put h.wa (by intro xs z; cases z), by rw [upd_ne h.de.symm]; exact h.sk, h.de⟩
theorem LastO.putE {K H b dx d e rs ws ss ss'} (h : LastO K H b dx d e rs ws ss) : LastO K (upd H e (.lst (ss'.map V.int))) b dx d e rs ws ss' :=
  ⟨by rw [upd_ne (ne_of h.ob h.sk (by intro z; cases z))]; exact h.ob, by rw [upd_ne h.de]; exact h.wa, h.wt.put h.sk (by intro xs z; cases z), upd_same, h.de⟩
/-- the pair that waits at a ticket -/
def tickOf (ws : List (Option (Int × Int))) (v : V) : Option (Nat × Int × Int) := match placeOf ws.length v with
  | none => none
  | some i => match ws.getD i none with
    | none => none
    | some (a, n) => some (i, a, n)
theorem tick_some {ws v i a n} (h : tickOf ws v = some (i, a, n)) : v = .int (i : Int) ∧ i < ws.length ∧ ws[i]? = some (some (a, n)) := by
  unfold tickOf at h
  cases e : placeOf ws.length v with
  | none => rw [e] at h; cases h
  | some j =>
    rw [e] at h
    obtain ⟨e1, e2⟩ := placeOf_some e
    have ej := getD_at (d := none) e2
    have h : (match ws.getD j none with
      | none => none
      | some (a, n) => some (j, a, n)) = some (i, a, n) := h
    cases e3 : ws.getD j none with
    | none => rw [e3] at h; cases h
    | some p =>
      rw [e3] at h ej
      cases h
      exact ⟨e1, e2, ej⟩
def sp_Lasts___init__ (K : PySem.W.Frag) : Sp := fun vs H Q _ => ∃ b dx, vs = [.ref b] ∧ H b = some (.ins (He.ga K "Lasts") dx []) ∧ ∀ d e H', H d = none → H e = none → LastO K H' b dx d e [] [] [] → (∀ c o, c ≠ b → H c = some o → H' c = some o) → Q .non H'
def sp_Lasts_give (K : PySem.W.Frag) : Sp := fun vs H Q E => ∃ b dx d e rs ws ss v z, vs = [.ref b, v, z] ∧ LastO K H b dx d e rs ws ss ∧ ws.length < 1000000 ∧ Thing H v ∧ Thing H z ∧ match placeW v with
  | some a => (match numW z with
    | some n => ∀ H' rs', LastO K H' b dx d e rs' (ws ++ [some (a, n)]) ss → (∀ c o, c ≠ d → H c = some o → H' c = some o) → Q (.int ws.length) H'
    | none => E (Ex K "BadNumber") none H)
  | none => E (Ex K "NoPlace") none H
def sp_Lasts_need (K : PySem.W.Frag) : Sp := fun vs H Q E => ∃ b dx d e rs ws ss v, vs = [.ref b, v] ∧ LastO K H b dx d e rs ws ss ∧ Thing H v ∧ match tickOf ws v with
  | some _ => Q .non H
  | none => E (Ex K "NoName") none H
def sp_Lasts_move (K : PySem.W.Frag) : Sp := fun vs H Q E => ∃ b dx d e rs ws ss v z, vs = [.ref b, v, z] ∧ LastO K H b dx d e rs ws ss ∧ Thing H v ∧ Thing H z ∧ match tickOf ws v with
  | some (i, a, n) => (match placeW z with
    | some a' => ∀ H' rs', LastO K H' b dx d e rs' (ws.set i (some (a', n))) ss → (∀ c o, c ≠ d → H c = some o → H' c = some o) → Q .non H'
    | none => E (Ex K "NoPlace") none H)
  | none => E (Ex K "NoName") none H
def sp_Lasts_say (K : PySem.W.Frag) : Sp := fun vs H Q E => ∃ b dx d e rs ws ss v, vs = [.ref b, v] ∧ LastO K H b dx d e rs ws ss ∧ ss.length < 1000000 ∧ Thing H v ∧ match tickOf ws v with
  | some (i, a, n) => ∀ H' rs', LastO K H' b dx d e rs' (ws.set i none) (ss ++ [n]) → (∀ c o, c ≠ d → c ≠ e → H c = some o → H' c = some o) → Q .non H'
  | none => E (Ex K "NoName") none H
def sp_Lasts_pending (K : PySem.W.Frag) : Sp := fun vs H Q _ => ∃ b dx d e rs ws ss, vs = [.ref b] ∧ LastO K H b dx d e rs ws ss ∧ ws.length < 1000000 ∧ ∀ p ps H', H p = none → Same H H' → H' p = some (.lst ps) → TupAll H' ps (pendOf 0 ws) → Q (.ref p) H'
def sp_Lasts_said (K : PySem.W.Frag) : Sp := fun vs H Q _ => ∃ b dx d e rs ws ss, vs = [.ref b] ∧ LastO K H b dx d e rs ws ss ∧ ∀ p, H p = none → Q (.ref p) (upd H p (.lst (ss.map V.int)))
section
variable {P : Program} {w : World} {K : PySem.W.Frag} {mg : Str → Option Value} {base : Heap}
theorem f_Lasts___init__ (T : Tx K mg) : Mi P w K mg base 1 "Lasts" ["self"] (sp_Lasts___init__ K) := by
  refine T.mkMi 50 128 16 (d := d_Lasts___init__) (N := ["self"]) (k := 0) rfl rfl rfl rfl rfl rfl sc_Lasts___init__ (fun _ _ _ _ _ _ us hl => match us, hl with | [_], _ => rfl) (fun vs H Q E h => ?len) (fun cdv A outer s H vs Q E hr h => ⟨_,
      (pss_cons (ps_fldC (T.cls 127) (T.noat 135) (pv 0) (pe_lst pa_nil))
        (pss_one (ps_fldC (T.cls 127) (T.noat 136) (pv 0) (pe_lst pa_nil)))), ?rd⟩)
  case len => obtain ⟨b, dx, rfl, _⟩ := h; rfl
  case rd =>
    obtain ⟨b, dx, rfl, M, q⟩ := h
    walk_at "w2"
    refine ⟨by omega, fun d hd => ?_⟩
    have nb : b ≠ d := ne_of_none M hd
    refine ⟨b, dx, _, rfl, by rw [upd_ne nb]; exact M, by decide, by omega, fun e he => ?_⟩
    rw [pi_Lasts_waiting] at he ⊢
    have ed : e ≠ d := by
      intro z
      rw [z, upd_ne nb.symm, upd_same] at he
      cases he
    have eb : b ≠ e := by
      intro z
      rw [← z, upd_same] at he
      cases he
    have he0 : H e = none := by
      rw [upd_ne eb.symm, upd_ne ed] at he
      exact he
    refine ⟨b, dx, _, rfl, by rw [upd_ne eb, upd_same], by show 1 < 1000; decide, ?_⟩
    rw [pi_Lasts_spoken]
    refine q d e _ hd he0 ⟨upd_same, ?_, .nil, ?_, ed.symm⟩ fun c o hc g => ?_
    · rw [upd_ne nb.symm, upd_ne ed.symm, upd_ne nb.symm, upd_same]
    · rw [upd_ne eb.symm, upd_same]
      rfl
    · rw [upd_ne hc, upd_ne (ne_of_none g he0), upd_ne hc, upd_ne (ne_of_none g hd)]
      exact g
theorem f_Lasts_need (T : Tx K mg) : Mt P w K mg base 2 "Lasts" "need" ["self", "ticket"] (sp_Lasts_need K) := by
  have c_is_whole := f_is_whole (P := P) (w := w) (base := base) T
  refine T.mkMt 52 130 127 (d := d_Lasts_need) (N := ["self", "ticket"]) (k := 1) rfl rfl rfl rfl rfl rfl sc_Lasts_need (fun _ _ _ _ _ _ us hl => match us, hl with | [_, _], _ => rfl) (fun vs H Q E h => ?len) (fun cdv A outer s H vs Q E hr h => ⟨_,
      (pss_one (ps_if (PW.pt (pw_or (pt_not (pt_val (pe_fn (takes_of rfl rfl rfl rfl) c_is_whole (hr.mono (by decide)) (by rfl) (pa_cons (pv 1) pa_nil)))) (pw_or (pt_not (pt_chain op_le op_lt pe_int (pv 1) (pe_callB (call_lenK (K := K) rfl) (by rfl) (T.free 59) PySem.boot_len (pa_cons (pe_fldC (T.cls 127) (T.noat 135) (pv 0)) pa_nil)))) (pw_or1 (pt_cmpR op_isN (pe_ix (ix_seqK (K := K) rfl) (pe_fldC (T.cls 127) (T.noat 135) (pv 0)) (pv 1) (fun _ _ => rfl)) pe_non (nomark _)))))) (pss_one (ps_raiseK (K := K) rfl rfl (takes_of rfl rfl rfl rfl) (T.says.fact 80 rfl) (T.glo 10) (by rfl))) pss_nil)), ?rd⟩)
  case len => obtain ⟨b, dx, d, e, rs, ws, ss, v, rfl, _⟩ := h; rfl
  case rd =>
    obtain ⟨b, dx, d, e, rs, ws, ss, v, rfl, B, th, h⟩ := h
    walk_at "w2"
    have ll := B.wt.len
    rcases th with ⟨n, rfl⟩ | o
    · walk_at "w2"
      unfold tickOf at h
      rw [placeOf_int] at h
      split
      · refine ⟨_, fldIs B.ob, r_lenL B.wa ?_⟩
        walk_at "w2"
        split
        · rw [if_neg (by omega)] at h
          exact h
        · rename_i c0 c1
          rw [if_pos (by omega)] at h
          obtain ⟨i, rfl⟩ := Int.eq_ofNat_of_zero_le c0
          rw [Int.toNat_natCast] at h
          have hi : i < ws.length := by omega
          have ei := getD_at (d := none) hi
          refine ⟨_, fldIs B.ob, ?_⟩
          cases ew : ws.getD i none with
          | none =>
            rw [ew] at ei
            refine r_ixL B.wa (B.wt.non i ei) ?_
            walk_at "w2"
            have h : (match (match ws.getD i none with
              | none => none
              | some (a, n) => some (i, a, n)) with
              | some _ => Q .non H
              | none => E (Ex K "NoName") none H) := h
            rw [ew] at h
            exact h
          | some p =>
            rw [ew] at ei
            obtain ⟨tp, e1, e2⟩ := B.wt.pair i p.1 p.2 ei
            refine r_ixL B.wa e1 ?_
            walk_at "w2"
            have h : (match (match ws.getD i none with
              | none => none
              | some (a, n) => some (i, a, n)) with
              | some _ => Q .non H
              | none => E (Ex K "NoName") none H) := h
            rw [ew] at h
            first | exact h | (rw [if_neg (by intro z; cases z)]; exact h)
      · rw [if_neg (by omega)] at h
        exact h
    · rw [odd_whole o]
      unfold tickOf at h
      rw [placeOf_odd o] at h
      walk_at "w2"
      exact h
theorem f_Lasts_give (T : Tx K mg) : Mt P w K mg base 3 "Lasts" "give" ["self", "at", "number"] (sp_Lasts_give K) := by
  have c_place_word := f_place_word (P := P) (w := w) (base := base) T
  have c_number_word := f_number_word (P := P) (w := w) (base := base) T
  refine T.mkMt 51 129 127 (d := d_Lasts_give) (N := ["self", "at", "number"]) (k := 2) rfl rfl rfl rfl rfl rfl sc_Lasts_give (fun _ _ _ _ _ _ us hl => match us, hl with | [_, _, _], _ => rfl) (fun vs H Q E h => ?len) (fun cdv A outer s H vs Q E hr h => ⟨_,
      (pss_cons (ps_expr (pe_fn (takes_of rfl rfl rfl rfl) c_place_word (hr.mono (by decide)) (by rfl) (pa_cons (pv 1) pa_nil)))
        (pss_cons (ps_expr (pe_fn (takes_of rfl rfl rfl rfl) c_number_word (hr.mono (by decide)) (by rfl) (pa_cons (pv 2) pa_nil)))
        (pss_cons (ps_expr (pe_bm PySem.F.plainAttrs_list PySem.F.slot_list_append PySem.F.type_list_append mt_append (pe_fldC (T.cls 127) (T.noat 135) (pv 0)) (pa_cons (pe_tup (pa_cons (pv 1) (pa_cons (pv 2) pa_nil))) pa_nil)))
        (pss_one (ps_ret (pe_op op_sub (pe_callB (call_lenK (K := K) rfl) (by rfl) (T.free 59) PySem.boot_len (pa_cons (pe_fldC (T.cls 127) (T.noat 135) (pv 0)) pa_nil)) pe_int)))))), ?rd⟩)
  case len => obtain ⟨b, dx, d, e, rs, ws, ss, v, z, rfl, _⟩ := h; rfl
  case rd =>
    obtain ⟨b, dx, d, e, rs, ws, ss, v, z, rfl, B, hl, th, tz, h⟩ := h
    walk_at "w2"
    have ll := B.wt.len
    rcases th with ⟨a, rfl⟩ | o
    · rw [x_place_word]
      rw [placeW_int] at h
      split
      · rename_i c
        rw [if_pos c] at h
        walk_at "w2"
        rcases tz with ⟨n, rfl⟩ | o
        · rw [x_number_word]
          rw [numW_int] at h
          split
          · rename_i c2
            rw [if_pos c2] at h
            walk_at "w2"
            refine ⟨_, fldIs B.ob, ty_lst B.wa, by rw [sizeLine_eq]; omega, fun p hp => ?_⟩
            have sp := same_new (o := .tup [.int a, .int n]) hp
            have B1 := B.same sp
            refine ⟨d, _, _, rfl, rfl, B1.wa, by rw [sizeLine_eq]; omega, ?_⟩
            have B2 := B1.putD (B1.wt.snoc (tp := p) upd_same)
            refine ⟨_, fldIs B2.ob, r_lenL B2.wa ?_⟩
            walk_at "w2"
            have e : (((rs ++ [V.ref p]).length : Nat) : Int) - 1 = (ws.length : Int) := by rw [List.length_append]; show ((rs.length + 1 : Nat) : Int) - 1 = _; omega
            rw [e]
            exact h _ _ B2 fun c o hc g => by rw [upd_ne hc]; exact sp _ _ g
          · rename_i c2
            rw [if_neg c2] at h
            exact h
        · rw [odd_number_word o]
          rw [numW_odd o] at h
          exact h
      · rename_i c
        rw [if_neg c] at h
        exact h
    · rw [odd_place_word o]
      rw [placeW_odd o] at h
      exact h
theorem f_Lasts_move (T : Tx K mg) : Mt P w K mg base 3 "Lasts" "move" ["self", "ticket", "at"] (sp_Lasts_move K) := by
  have c_Lasts_need := f_Lasts_need (P := P) (w := w) (base := base) T
  have c_place_word := f_place_word (P := P) (w := w) (base := base) T
  refine T.mkMt 53 131 127 (d := d_Lasts_move) (N := ["self", "ticket", "at"]) (k := 2) rfl rfl rfl rfl rfl rfl sc_Lasts_move (fun _ _ _ _ _ _ us hl => match us, hl with | [_, _, _], _ => rfl) (fun vs H Q E h => ?len) (fun cdv A outer s H vs Q E hr h => ⟨_,
      (pss_cons (ps_expr (pe_mt (K := K) rfl (takes_of rfl rfl rfl rfl) (pv 0) c_Lasts_need (hr.mono (by decide)) (pa_cons (pv 1) pa_nil)))
        (pss_cons (ps_expr (pe_fn (takes_of rfl rfl rfl rfl) c_place_word (hr.mono (by decide)) (by rfl) (pa_cons (pv 2) pa_nil)))
        (pss_one (ps_asg (pe_tup (pa_cons (pv 2) (pa_cons (pe_ix (ix_seqK (K := K) rfl) (pe_ix (ix_seqK (K := K) rfl) (pe_fldC (T.cls 127) (T.noat 135) (pv 0)) (pv 1) (fun _ _ => rfl)) pe_int (fun _ _ => rfl)) pa_nil))) (pg_sub (pe_fldC (T.cls 127) (T.noat 135) (pv 0)) (pv 1) set_list))))), ?rd⟩)
  case len => obtain ⟨b, dx, d, e, rs, ws, ss, v, z, rfl, _⟩ := h; rfl
  case rd =>
    obtain ⟨b, dx, d, e, rs, ws, ss, v, z, rfl, B, th, tz, h⟩ := h
    walk_at "w2"
    refine ⟨recv B.ob, _, _, _, _, _, _, _, _, rfl, B, th, ?_⟩
    cases et : tickOf ws v with
    | none =>
      rw [et] at h
      exact h
    | some t =>
      obtain ⟨i, a, n⟩ := t
      rw [et] at h
      obtain ⟨rfl, hi, ew⟩ := tick_some et
      obtain ⟨tp, e1, e2⟩ := B.wt.pair i a n ew
      have ll := B.wt.len
      walk_at "w2"
      rcases tz with ⟨a', rfl⟩ | o
      · rw [x_place_word]
        rw [placeW_int] at h
        split
        · rename_i c
          rw [if_pos c] at h
          walk_at "w2"
          refine ⟨_, fldIs B.ob, r_ixL B.wa e1 (r_ixT (i := 1) e2 rfl ⟨by rw [sizeLine_eq]; omega, fun p hp => ?_⟩)⟩
          have sp := same_new (o := .tup [.int a', .int n]) hp
          have B1 := B.same sp
          refine ⟨_, fldIs B1.ob, r_setL B1.wa (by omega) (by omega) ?_⟩
          rw [Int.toNat_natCast]
          exact h _ _ (B1.putD (B1.wt.set (tp := p) upd_same)) fun c o hc g => by rw [upd_ne hc]; exact sp _ _ g
        · rename_i c
          rw [if_neg c] at h
          exact h
      · rw [odd_place_word o]
        rw [placeW_odd o] at h
        exact h
theorem f_Lasts_say (T : Tx K mg) : Mt P w K mg base 3 "Lasts" "say" ["self", "ticket"] (sp_Lasts_say K) := by
  have c_Lasts_need := f_Lasts_need (P := P) (w := w) (base := base) T
  refine T.mkMt 54 132 127 (d := d_Lasts_say) (N := ["self", "ticket"]) (k := 2) rfl rfl rfl rfl rfl rfl sc_Lasts_say (fun _ _ _ _ _ _ us hl => match us, hl with | [_, _], _ => rfl) (fun vs H Q E h => ?len) (fun cdv A outer s H vs Q E hr h => ⟨_,
      (pss_cons (ps_expr (pe_mt (K := K) rfl (takes_of rfl rfl rfl rfl) (pv 0) c_Lasts_need (hr.mono (by decide)) (pa_cons (pv 1) pa_nil)))
        (pss_cons (ps_expr (pe_bm PySem.F.plainAttrs_list PySem.F.slot_list_append PySem.F.type_list_append mt_append (pe_fldC (T.cls 127) (T.noat 136) (pv 0)) (pa_cons (pe_ix (ix_seqK (K := K) rfl) (pe_ix (ix_seqK (K := K) rfl) (pe_fldC (T.cls 127) (T.noat 135) (pv 0)) (pv 1) (fun _ _ => rfl)) pe_int (fun _ _ => rfl)) pa_nil)))
        (pss_one (ps_asg pe_non (pg_sub (pe_fldC (T.cls 127) (T.noat 135) (pv 0)) (pv 1) set_list))))), ?rd⟩)
  case len => obtain ⟨b, dx, d, e, rs, ws, ss, v, rfl, _⟩ := h; rfl
  case rd =>
    obtain ⟨b, dx, d, e, rs, ws, ss, v, rfl, B, hl, th, h⟩ := h
    walk_at "w2"
    refine ⟨recv B.ob, _, _, _, _, _, _, _, _, rfl, B, th, ?_⟩
    cases et : tickOf ws v with
    | none =>
      rw [et] at h
      exact h
    | some t =>
      obtain ⟨i, a, n⟩ := t
      rw [et] at h
      obtain ⟨rfl, hi, ew⟩ := tick_some et
      obtain ⟨tp, e1, e2⟩ := B.wt.pair i a n ew
      have ll := B.wt.len
      walk_at "w2"
      refine ⟨_, fldIs B.ob, ty_lst B.sk, _, fldIs B.ob, r_ixL B.wa e1 (r_ixT (i := 1) e2 rfl ⟨e, _, _, rfl, rfl, B.sk, by rw [List.length_map, sizeLine_eq]; omega, ?_⟩)⟩
      have es : ss.map V.int ++ [V.int n] = (ss ++ [n]).map V.int := by rw [List.map_append]; rfl
      rw [es]
      have B1 := B.putE (ss' := ss ++ [n])
      refine ⟨_, fldIs B1.ob, r_setL B1.wa (by omega) (by omega) ?_⟩
      rw [Int.toNat_natCast]
      exact h _ _ (B1.putD B1.wt.rub) fun c o hc hc' g => by rw [upd_ne hc, upd_ne hc']; exact g
theorem f_Lasts_pending (T : Tx K mg) : Mt P w K mg base 1 "Lasts" "pending" ["self"] (sp_Lasts_pending K) := by
  refine T.mkMt 55 133 127 (d := d_Lasts_pending) (N := ["self", "found", "ticket", "pair"]) (k := 0) rfl rfl rfl rfl rfl rfl sc_Lasts_pending (fun _ _ _ _ _ _ us hl => match us, hl with | [_], _ => rfl) (fun vs H Q E h => ?len) (fun cdv A outer s H vs Q E hr h => ⟨_,
      (pss_cons (ps_set (i := 1) sc_Lasts_pending.nd rfl (Or.inl rfl) (pe_lst pa_nil))
        (pss_cons (ps_for (passes_of rfl) rfl (pi_enum (by rfl) (T.free 64) (pa_cons (pe_fldC (T.cls 127) (T.noat 135) (pv 0)) pa_nil)) (pg_tup (n := 2) rfl (pgs_cons (pg_name (i := 2) sc_Lasts_pending.nd rfl (Or.inl rfl)) (pgs_cons (pg_name (i := 3) sc_Lasts_pending.nd rfl (Or.inl rfl)) pgs_nil))) (pss_one (ps_if (pt_cmpR op_notN (pv 3) pe_non (nomark _)) (pss_one (ps_expr (pe_bm PySem.F.plainAttrs_list PySem.F.slot_list_append PySem.F.type_list_append mt_append (pv 1) (pa_cons (pe_tup (pa_cons (pv 2) (pa_cons (pe_ix (ix_seqK (K := K) rfl) (pv 3) pe_int (fun _ _ => rfl)) (pa_cons (pe_ix (ix_seqK (K := K) rfl) (pv 3) pe_int (fun _ _ => rfl)) pa_nil)))) pa_nil)))) pss_nil)))
        (pss_one (ps_ret (pv 1))))), ?rd⟩)
  case len => obtain ⟨b, dx, d, e, rs, ws, ss, rfl, _⟩ := h; rfl
  case rd =>
    obtain ⟨b, dx, d, e, rs, ws, ss, rfl, B, hl, q⟩ := h
    walk_at "w2"
    have ll := B.wt.len
    refine ⟨by omega, fun D hD => ?_⟩
    have sD := same_new (o := .lst []) hD
    have B1 := B.same sD
    refine ⟨_, fldIs B1.ob, d, rs, rfl, .of B1.wa, for_it (walk_enum (xs := rs)) (fun i σ H' => ∃ o2 o3 ps, σ = [some (.ref b), some (.ref D), o2, o3] ∧ Same H H' ∧ H' D = some (.lst ps) ∧ TupAll H' ps (pendOf 0 (ws.take i))) ⟨_, _, [], rfl, sD, upd_same, .nil⟩ ?_ ?_ ?_⟩
    · rintro i σ H' _ ⟨o2, o3, ps, rfl, s, _⟩
      exact .of (s _ _ B.wa)
    · rintro i x σ H1 H' hi ⟨o2, o3, ps, rfl, s, hd, t⟩ ⟨T, y, z, rfl, hT, rfl, e1, e2⟩
      cases Option.some.inj e1
      have e2 : rs[i]? = some z := e2
      have sT := same_new (o := .tup [.int (i : Nat), z]) hT
      have hi' : i < ws.length := by omega
      have ei := getD_at (d := none) hi'
      have ez : ws.take (i + 1) = ws.take i ++ [ws.getD i none] := by rw [List.take_add_one, ei]; rfl
      have el : (ws.take i).length = i := by rw [List.length_take]; omega
      have pl := pendOf_len (ws := ws.take i) 0
      walk_at "w2"
      refine ⟨_, .inl (.inl upd_same), rfl, ?_⟩
      walk_at "w2"
      cases ew : ws.getD i none with
      | none =>
        rw [ew] at ei ez
        have ezn : z = .non := Option.some.inj (e2.symm.trans (B.wt.non i ei))
        subst ezn
        rw [if_neg (fun z => z rfl)]
        refine ⟨_, _, ps, rfl, s.trans sT, sT _ _ hd, ?_⟩
        rw [ez, pendOf_snoc]
        show TupAll _ ps (pendOf 0 (ws.take i) ++ [])
        rw [List.append_nil]
        exact t.same sT
      | some p =>
        obtain ⟨a, n⟩ := p
        rw [ew] at ei ez
        obtain ⟨tp, e3, e4⟩ := B.wt.pair i a n ei
        cases Option.some.inj (e2.symm.trans e3)
        rw [if_pos (by intro z; cases z)]
        have e5 := (s.trans sT) _ _ e4
        have hdT := sT _ _ hd
        refine ⟨ty_lst hdT, r_ixT (i := 0) e5 rfl (r_ixT (i := 1) e5 rfl ⟨by rw [sizeLine_eq]; omega, fun p hp => ?_⟩)⟩
        have sp := same_new (o := .tup [.int (i : Nat), .int a, .int n]) hp
        have tl := t.len
        have hd2 := sp _ _ hdT
        have nD : p ≠ D := (ne_of_none hdT hp).symm
        refine ⟨D, ps, _, rfl, rfl, hd2, by rw [sizeLine_eq]; omega, _, _, _, rfl, ?_, upd_same, ?_⟩
        · exact fun c o g => by rw [upd_ne (ne_of_none g hD)]; exact (s.trans (sT.trans sp)) _ _ g
        · rw [ez, pendOf_snoc, Nat.zero_add, el]
          refine ((t.same (sT.trans sp)).put hd2 (by intro xs z; cases z)).snoc (by rw [upd_ne nD]; exact upd_same) fun x hx => ?_
          rcases List.mem_cons.mp hx with rfl | hx
          · rfl
          rcases List.mem_cons.mp hx with rfl | hx
          · rfl
          · rw [List.mem_singleton] at hx
            subst hx
            rfl
    · rintro σ H' ⟨o2, o3, ps, rfl, s, hd, t⟩
      rw [ll, List.take_length] at t
      walk_at "w2"
      exact q D ps H' hD s hd t
theorem f_Lasts_said (T : Tx K mg) : Mt P w K mg base 1 "Lasts" "said" ["self"] (sp_Lasts_said K) := by
  refine T.mkMt 56 134 127 (d := d_Lasts_said) (N := ["self"]) (k := 0) rfl rfl rfl rfl rfl rfl sc_Lasts_said (fun _ _ _ _ _ _ us hl => match us, hl with | [_], _ => rfl) (fun vs H Q E h => ?len) (fun cdv A outer s H vs Q E hr h => ⟨_,
      (pss_one (ps_ret (pe_callTy (call_listK (K := K) rfl) (by rfl) (T.free 68) (by decide +kernel) (pa_cons (pe_fldC (T.cls 127) (T.noat 136) (pv 0)) pa_nil)))), ?rd⟩)
  case len => obtain ⟨b, dx, d, e, rs, ws, ss, rfl, _⟩ := h; rfl
  case rd =>
    obtain ⟨b, dx, d, e, rs, ws, ss, rfl, B, q⟩ := h
    walk_at "w2"
    refine ⟨_, fldIs B.ob, e, _, rfl, .inl (.of B.sk), fun p hp => q p hp⟩
end

local macro_rules | `(tactic| walk_at "w2") => `(tactic| try simp only [↓x_var0, ↓x_varS, ↓x_c, ↓x_op, ↓x_un, ↓x_cb, ↓x_nil, ↓x_cons, ↓x_test, ↓x_b, ↓x_ex, ↓x_and, ↓x_or, ↓x_not, ↓x_andV, ↓x_orV, ↓x_notV, ↓x_tif, ↓x_chain, ↓x_menu, ↓x_menuI, ↓x_lst, ↓x_tup, ↓x_dnew, ↓x_callW, ↓x_callN, ↓x_seq, ↓x_next, ↓x_ret, ↓x_retN, ↓x_drop, ↓x_ifS, ↓x_asg, ↓x_name, ↓x_raise, ↓x_fld, ↓x_setF, ↓x_meth, ↓x_make, ↓x_sub, ↓r_min, ↓r_max, ↓x_yes, ↓x_for, ↓x_lock, ↓x_keys, ↓x_cut, ↓x_lc, ↓x_rng1, ↓x_rng2, ↓x_lst1, ↓x_itup, ↓x_rng3, ↓x_three, ↓x_lstg, ↓x_tupg, ↓x_adrS, ↓x_one, ↓x_two, ↓x_adr, ↓x_sl, ↓x_np, ↓x_pt, ↓x_int, ↓x_bm, ↓x_bm0, ↓x_consg, ↓x_nilg, ↓x_dget2, ↓x_dget1, ↓x_dget, ↓x_din, ↓x_dni, ↓x_dput, ↓x_dpop2, ↓r_isB, ↓r_notB, ↓x_enum, ↓x_zip, ↓x_str, ↓x_strE, ↓r_inS, ↓r_ninS, wipe, List.map_cons, List.map_nil, ↓x_isT, ↓r_isiII, ↓r_isiBB, ↓r_isiIB, ↓r_isiSS, ↓r_neNS, ↓r_neSN, ↓r_neNN, ↓r_eqNS, ↓r_eqSN, ↓r_eqNN, ↓r_eqIS, ↓r_neIS, ↓r_neSI, ↓r_neBS, ↓r_eqBB, ↓r_neBB, ↓x_start, ↓x_K, ↓x_start0, ↓r_i0, ↓r_i, ↓r_u, ↓r_addI, ↓r_addS, ↓r_mulI, ↓r_mulS, ↓r_eqI, ↓r_neI, ↓r_eqS, ↓r_neS, ↓r_absI, ↓r_intI, ↓r_intB, List.length_cons, List.length_nil, List.replicate, List.set_cons_zero, List.set_cons_succ, decide_eq_true_eq, Bool.not_eq_true', decide_eq_false_iff_not, if_true, if_false, Bool.false_eq_true, Bool.true_eq_false, ite_true, ite_false, Bool.not_true, Bool.not_false, c_div, n_ten, c_pow, not_true_eq_false, not_false_eq_true, decide_true, decide_false, true_and, and_true, and_self, true_or, or_true, Int.reduceLT, Int.reduceLE, Int.reduceMul, Int.reduceAdd, Int.reduceSub, Int.reducePow, Int.reduceNeg, Int.reduceDiv, Int.reduceMod, Nat.reducePow, Int.reduceToNat, Int.reduceEq, Int.reduceNe, Nat.reduceLT, Nat.reduceLeDiff, Nat.reduceAdd, ↓x_whole, ↓x_kind])
/-! ## hands -/
structure HandO (K : PySem.W.Frag) (H : Hp) (h hx l : Addr) (ws : List Int) : Prop where
  ob : H h = some (.ins (He.ga K "Hands") hx (F_Hands (.ref l)))
  ls : H l = some (.lst (ws.map V.int))
  vw : Vw ws
  sz : ws.length ≤ 6
theorem HandO.same {K H H' h hx l ws} (o : HandO K H h hx l ws) (s : Same H H') : HandO K H' h hx l ws := ⟨s _ _ o.ob, s _ _ o.ls, o.vw, o.sz⟩
theorem HandO.ne {K H h hx l ws} (o : HandO K H h hx l ws) : h ≠ l := ne_of o.ob o.ls (by intro z; cases z)
theorem HandO.put {K H h hx l ws} (o : HandO K H h hx l ws) {i : Nat} {n : Int} (hn : (wordOf n).isSome = true) : HandO K (upd H l (.lst ((ws.set i n).map V.int))) h hx l (ws.set i n) :=
  ⟨by rw [upd_ne o.ne]; exact o.ob, upd_same, o.vw.set hn, by rw [List.length_set]; exact o.sz⟩
def handsV : V → Option Nat
  | .int n => if 1 ≤ n ∧ n ≤ 6 then some n.toNat else none
  | _ => none
theorem handsV_int {n : Int} : handsV (.int n) = if 1 ≤ n ∧ n ≤ 6 then some n.toNat else none := rfl
theorem handsV_odd {H : Hp} {v : V} (h : Odd H v) : handsV v = none := by
  cases v with
  | int i => exact (odd_not h).elim
  | _ => rfl
theorem handsV_some {v : V} {n : Nat} (h : handsV v = some n) : v = .int (n : Int) ∧ 1 ≤ n ∧ n ≤ 6 := by
  cases v with
  | int j =>
    rw [handsV_int] at h
    split at h
    · have e := Option.some.inj h
      exact ⟨by rw [← e]; congr 1; omega, by omega⟩
    · cases h
  | _ => cases h
def placesW (ws : List Int) : List Int := ws.filterMap fun w => match wordOf w with
  | some (.place p) => some p
  | _ => none
def sp_Hands___init__ (K : PySem.W.Frag) : Sp := fun vs H Q E => ∃ h dx v, vs = [.ref h, v] ∧ H h = some (.ins (He.ga K "Hands") dx []) ∧ Thing H v ∧ match handsV v with
  | some n => ∀ l H', H l = none → HandO K H' h dx l (List.replicate n (-1)) → (∀ b o, b ≠ h → H b = some o → H' b = some o) → Q .non H'
  | none => E (Ex K "BadCount") none H
def sp_Hands_need (K : PySem.W.Frag) : Sp := fun vs H Q E => ∃ h dx l ws v, vs = [.ref h, v] ∧ HandO K H h dx l ws ∧ Thing H v ∧ match placeOf ws.length v with
  | some _ => Q .non H
  | none => E (Ex K "NoHand") none H
def sp_Hands_get (K : PySem.W.Frag) : Sp := fun vs H Q E => ∃ h dx l ws v, vs = [.ref h, v] ∧ HandO K H h dx l ws ∧ Thing H v ∧ match placeOf ws.length v with
  | some i => Q (.int (ws.getD i 0)) H
  | none => E (Ex K "NoHand") none H
def sp_Hands_put (K : PySem.W.Frag) : Sp := fun vs H Q E => ∃ h dx l ws v z, vs = [.ref h, v, z] ∧ HandO K H h dx l ws ∧ Thing H v ∧ Thing H z ∧ match placeOf ws.length v with
  | some i => (match wordV z with
    | some n => Q .non (upd H l (.lst ((ws.set i n).map V.int)))
    | none => E (Ex K "BadWord") none H)
  | none => E (Ex K "NoHand") none H
def sp_Hands_row (K : PySem.W.Frag) : Sp := fun vs H Q _ => ∃ h dx l ws, vs = [.ref h] ∧ HandO K H h dx l ws ∧ ∀ p, H p = none → Q (.ref p) (upd H p (.lst (ws.map V.int)))
section
variable {P : Program} {w : World} {K : PySem.W.Frag} {mg : Str → Option Value} {base : Heap}
theorem f_Hands___init__ (T : Tx K mg) : Mi P w K mg base 2 "Hands" ["self", "many"] (sp_Hands___init__ K) := by
  have c_is_whole := f_is_whole (P := P) (w := w) (base := base) T
  refine T.mkMi 45 121 15 (d := d_Hands___init__) (N := ["self", "many", "hand"]) (k := 1) rfl rfl rfl rfl rfl rfl sc_Hands___init__ (fun _ _ _ _ _ _ us hl => match us, hl with | [_, _], _ => rfl) (fun vs H Q E h => ?len) (fun cdv A outer s H vs Q E hr h => ⟨_,
      (pss_cons (ps_if (PW.pt (pw_or (pt_not (pt_val (pe_fn (takes_of rfl rfl rfl rfl) c_is_whole (hr.mono (by decide)) (by rfl) (pa_cons (pv 1) pa_nil)))) (pw_or1 (pt_not (pt_chain op_le op_le pe_int (pv 1) (pe_num (T.num 57) (by rfl))))))) (pss_one (ps_raiseK (K := K) rfl rfl (takes_of rfl rfl rfl rfl) (T.says.fact 73 rfl) (T.glo 3) (by rfl))) pss_nil)
        (pss_one (ps_fldC (T.cls 120) (T.noat 126) (pv 0) (pe_lc (own := [("hand", 2)]) (g := gName 2) rfl sc_Hands___init__.nd (pi_range1 rfl (T.free 61) (pa_cons (pv 1) pa_nil)) (blkOk_by (own := [("hand", 2)]) (N := ["self", "many", "hand"]) (sc := defScope s_Hands___init__) (by decide +kernel)) (fun _ _ _ _ _ => (pg_name (i := 2) sc_Hands___init__.nd rfl (Or.inl rfl))) (fun _ _ _ _ _ => pts_nil) (fun _ _ _ _ _ => (pe_num (T.num 49) (by rfl))))))), ?rd⟩)
  case len => first | exact len_Hands___init__ h | (repeat (first | (obtain ⟨rfl, _⟩ := h; rfl; done) | obtain ⟨_, h⟩ := h))
  case rd =>
    obtain ⟨m, dx, v, rfl, M, th, h⟩ := h
    walk_at "w2"
    rcases th with ⟨n, rfl⟩ | o
    · walk_at "w2"
      rw [handsV_int] at h
      split
      · split
        · rw [if_neg (by omega)] at h
          exact h
        · rw [if_pos (by omega)] at h
          refine ⟨by omega, by omega, fun D hD => lc_mapR (fun _ => .int (-1)) (fun _ => rfl) (by rw [sizeLine_eq]; omega) (fun i hi acc Q q => ?_) ?_⟩
          · walk_at "w2"
            exact q
          · have nD : m ≠ D := ne_of_none M hD
            refine ⟨m, dx, _, rfl, by rw [upd_ne nD]; exact M, by show 0 < 1000; decide, ?_⟩
            rw [pi_Hands_kept]
            have er : (List.range n.toNat).map (fun _ => V.int (-1)) = (List.replicate n.toNat (-1 : Int)).map V.int := by rw [List.map_replicate, List.map_const', List.length_range]
            rw [er]
            refine h D _ hD ⟨upd_same, ?_, Vw.rep, by rw [List.length_replicate]; omega⟩ fun b o hb e => ?_
            · rw [upd_ne nD.symm, upd_same]
            · rw [upd_ne hb, upd_ne (ne_of_none e hD)]
              exact e
      · rw [if_neg (by omega)] at h
        exact h
    · rw [odd_whole o]
      rw [handsV_odd o] at h
      walk_at "w2"
      exact h
theorem f_Hands_need (T : Tx K mg) : Mt P w K mg base 2 "Hands" "need" ["self", "hand"] (sp_Hands_need K) := by
  have c_is_whole := f_is_whole (P := P) (w := w) (base := base) T
  refine T.mkMt 46 122 120 (d := d_Hands_need) (N := ["self", "hand"]) (k := 1) rfl rfl rfl rfl rfl rfl sc_Hands_need (fun _ _ _ _ _ _ us hl => match us, hl with | [_, _], _ => rfl) (fun vs H Q E h => ?len) (fun cdv A outer s H vs Q E hr h => ⟨_,
      (pss_one (ps_if (PW.pt (pw_or (pt_not (pt_val (pe_fn (takes_of rfl rfl rfl rfl) c_is_whole (hr.mono (by decide)) (by rfl) (pa_cons (pv 1) pa_nil)))) (pw_or1 (pt_not (pt_chain op_le op_lt pe_int (pv 1) (pe_callB (call_lenK (K := K) rfl) (by rfl) (T.free 59) PySem.boot_len (pa_cons (pe_fldC (T.cls 120) (T.noat 126) (pv 0)) pa_nil))))))) (pss_one (ps_raiseK (K := K) rfl rfl (takes_of rfl rfl rfl rfl) (T.says.fact 78 rfl) (T.glo 8) (by rfl))) pss_nil)), ?rd⟩)
  case len => first | exact len_Hands_need h | (repeat (first | (obtain ⟨rfl, _⟩ := h; rfl; done) | obtain ⟨_, h⟩ := h))
  case rd =>
    obtain ⟨m, dx, l, ws, v, rfl, M, th, h⟩ := h
    walk_at "w2"
    rcases th with ⟨n, rfl⟩ | o
    · walk_at "w2"
      rw [placeOf_int] at h
      split
      · refine ⟨_, fldIs M.ob, r_lenL M.ls ?_⟩
        walk_at "w2"
        rw [List.length_map]
        split
        · rw [if_neg (by omega)] at h
          exact h
        · rw [if_pos (by omega)] at h
          exact h
      · rw [if_neg (by omega)] at h
        exact h
    · rw [odd_whole o]
      rw [placeOf_odd o] at h
      walk_at "w2"
      exact h
theorem f_Hands_get (T : Tx K mg) : Mt P w K mg base 3 "Hands" "get" ["self", "hand"] (sp_Hands_get K) := by
  have c_Hands_need := f_Hands_need (P := P) (w := w) (base := base) T
  refine T.mkMt 47 123 120 (d := d_Hands_get) (N := ["self", "hand"]) (k := 2) rfl rfl rfl rfl rfl rfl sc_Hands_get (fun _ _ _ _ _ _ us hl => match us, hl with | [_, _], _ => rfl) (fun vs H Q E h => ?len) (fun cdv A outer s H vs Q E hr h => ⟨_,
      (pss_cons (ps_expr (pe_mt (K := K) rfl (takes_of rfl rfl rfl rfl) (pv 0) c_Hands_need (hr.mono (by decide)) (pa_cons (pv 1) pa_nil)))
        (pss_one (ps_ret (pe_ix (ix_seqK (K := K) rfl) (pe_fldC (T.cls 120) (T.noat 126) (pv 0)) (pv 1) (fun _ _ => rfl))))), ?rd⟩)
  case len => first | exact len_Hands_get h | (repeat (first | (obtain ⟨rfl, _⟩ := h; rfl; done) | obtain ⟨_, h⟩ := h))
  case rd =>
    obtain ⟨m, dx, l, ws, v, rfl, M, th, h⟩ := h
    walk_at "w2"
    refine ⟨recv M.ob, m, dx, l, ws, v, rfl, M, th, ?_⟩
    cases e : placeOf ws.length v with
    | none =>
      rw [e] at h
      exact h
    | some i =>
      rw [e] at h
      obtain ⟨rfl, hi⟩ := placeOf_some e
      refine ⟨_, fldIs M.ob, ?_⟩
      refine r_ixL M.ls ?_ h
      rw [List.getElem?_map, getD_at (d := 0) hi]
      rfl
theorem f_Hands_put (T : Tx K mg) : Mt P w K mg base 3 "Hands" "put" ["self", "hand", "word"] (sp_Hands_put K) := by
  have c_Hands_need := f_Hands_need (P := P) (w := w) (base := base) T
  have c_kind := f_kind (P := P) (w := w) (base := base) T
  refine T.mkMt 48 124 120 (d := d_Hands_put) (N := ["self", "hand", "word"]) (k := 2) rfl rfl rfl rfl rfl rfl sc_Hands_put (fun _ _ _ _ _ _ us hl => match us, hl with | [_, _, _], _ => rfl) (fun vs H Q E h => ?len) (fun cdv A outer s H vs Q E hr h => ⟨_,
      (pss_cons (ps_expr (pe_mt (K := K) rfl (takes_of rfl rfl rfl rfl) (pv 0) c_Hands_need (hr.mono (by decide)) (pa_cons (pv 1) pa_nil)))
        (pss_cons (ps_expr (pe_fn (takes_of rfl rfl rfl rfl) c_kind (hr.mono (by decide)) (by rfl) (pa_cons (pv 2) pa_nil)))
        (pss_one (ps_asg (pv 2) (pg_sub (pe_fldC (T.cls 120) (T.noat 126) (pv 0)) (pv 1) set_list))))), ?rd⟩)
  case len => first | exact len_Hands_put h | (repeat (first | (obtain ⟨rfl, _⟩ := h; rfl; done) | obtain ⟨_, h⟩ := h))
  case rd =>
    obtain ⟨m, dx, l, ws, v, z, rfl, M, th, tz, h⟩ := h
    walk_at "w2"
    refine ⟨recv M.ob, m, dx, l, ws, v, rfl, M, th, ?_⟩
    cases e : placeOf ws.length v with
    | none =>
      rw [e] at h
      exact h
    | some i =>
      rw [e] at h
      obtain ⟨rfl, hi⟩ := placeOf_some e
      walk_at "w2"
      rcases tz with ⟨n, rfl⟩ | o
      · rw [x_kind]
        rw [wordV_int] at h
        cases ew : wordOf n with
        | none =>
          rw [ew] at h
          exact h
        | some w =>
          rw [ew] at h
          refine ⟨_, fldIs M.ob, ?_⟩
          refine r_setL M.ls (by omega) (by rw [List.length_map]; omega) ?_
          rw [Int.toNat_natCast, ← List.map_set]
          exact h
      · rw [odd_kind o]
        rw [wordV_odd o] at h
        exact h
theorem f_Hands_row (T : Tx K mg) : Mt P w K mg base 1 "Hands" "row" ["self"] (sp_Hands_row K) := by
  refine T.mkMt 49 125 120 (d := d_Hands_row) (N := ["self"]) (k := 0) rfl rfl rfl rfl rfl rfl sc_Hands_row (fun _ _ _ _ _ _ us hl => match us, hl with | [_], _ => rfl) (fun vs H Q E h => ?len) (fun cdv A outer s H vs Q E hr h => ⟨_,
      (pss_one (ps_ret (pe_callTy (call_listK (K := K) rfl) (by rfl) (T.free 68) (by decide +kernel) (pa_cons (pe_fldC (T.cls 120) (T.noat 126) (pv 0)) pa_nil)))), ?rd⟩)
  case len => first | exact len_Hands_row h | (repeat (first | (obtain ⟨rfl, _⟩ := h; rfl; done) | obtain ⟨_, h⟩ := h))
  case rd =>
    obtain ⟨m, dx, l, ws, rfl, M, q⟩ := h
    walk_at "w2"
    exact ⟨_, fldIs M.ob, l, _, rfl, .inl (.of M.ls), q⟩
end
structure RoA where
  (r rx h hx hl b bx w wx wl la lax d e : Addr)
structure RoS where
  (hs : List Int) (bd : Addr) (bs : List Int) (ts : List V) (rs : List V) (ws : List (Option (Int × Int))) (ss : List Int)
/-- roots: where the parts stand, what they hold -/
structure RootO (K : PySem.W.Frag) (H : Hp) (A : RoA) (S : RoS) : Prop where
  ob : H A.r = some (.ins (He.ga K "Roots") A.rx (F_Roots (.ref A.h) (.ref A.b) (.ref A.w) (.ref A.la)))
  ho : HandO K H A.h A.hx A.hl S.hs
  bo : BookO K H A.b A.bx S.bd S.bs
  wo : WeakO K H A.w A.wx A.wl S.ts
  lo : LastO K H A.la A.lax A.d A.e S.rs S.ws S.ss
  n1 : A.hl ≠ A.wl
  n2 : A.hl ≠ A.d
  n3 : A.hl ≠ A.e
  n4 : A.wl ≠ A.d
  n5 : A.wl ≠ A.e
theorem RootO.same {K H H' A S} (h : RootO K H A S) (s : Same H H') : RootO K H' A S := { h with ob := s _ _ h.ob, ho := h.ho.same s, bo := h.bo.same s, wo := h.wo.same s, lo := h.lo.same s }
def sp_Roots_starts (K : PySem.W.Frag) : Sp := fun vs H Q _ => ∃ r rx h hx l ws, ∃ f2 f3 f4 : V, vs = [.ref r] ∧ H r = some (.ins (He.ga K "Roots") rx (F_Roots (.ref h) f2 f3 f4)) ∧ HandO K H h hx l ws ∧
  ∀ p H', H p = none → Same H H' → H' p = some (.lst ((placesW ws).map V.int)) → Q (.ref p) H'
def sp_Roots___init__ (K : PySem.W.Frag) : Sp := fun vs H Q E => ∃ r dx v, vs = [.ref r, v] ∧ H r = some (.ins (He.ga K "Roots") dx []) ∧ Thing H v ∧ match handsV v with
  | some n => ∀ A S H', A.r = r → S = ⟨List.replicate n (-1), S.bd, [], [], [], [], []⟩ → RootO K H' A S → (∀ c, c = A.h ∨ c = A.hl ∨ c = A.b ∨ c = S.bd ∨ c = A.w ∨ c = A.wl ∨ c = A.la ∨ c = A.d ∨ c = A.e → H c = none) → (∀ b o, b ≠ r → H b = some o → H' b = some o) → Q .non H'
  | none => ∀ H', (∀ b o, b ≠ r → H b = some o → H' b = some o) → E (Ex K "BadCount") none H'
def gPlace : V → Option V
  | .int x => match wordOf x with
    | some (.place p) => some (.int p)
    | _ => none
  | _ => none
def kidV : Wd → Option V
  | .place p => some (.int p)
  | _ => none
theorem gPlace_word {x : Int} {w : Wd} (e : wordOf x = some w) : gPlace (.int x) = kidV w := by
  unfold gPlace
  dsimp only
  rw [e]
  cases w <;> rfl
theorem places_map {ws : List Int} : (ws.map V.int).filterMap gPlace = (placesW ws).map V.int := by
  unfold placesW
  rw [List.filterMap_map, List.map_filterMap]
  congr 1
  funext x
  show gPlace (.int x) = _
  unfold gPlace
  dsimp only
  cases wordOf x with
  | none => rfl
  | some w => cases w <;> rfl
section
variable {P : Program} {w : World} {K : PySem.W.Frag} {mg : Str → Option Value} {base : Heap}
theorem f_Roots_starts (T : Tx K mg) : Mt P w K mg base 4 "Roots" "starts" ["self"] (sp_Roots_starts K) := by
  have c_Hands_row := f_Hands_row (P := P) (w := w) (base := base) T
  have c_kind := f_kind (P := P) (w := w) (base := base) T
  have c_worth := f_worth (P := P) (w := w) (base := base) T
  refine T.mkMt 66 149 147 (d := d_Roots_starts) (N := ["self", "word"]) (k := 3) rfl rfl rfl rfl rfl rfl sc_Roots_starts (fun _ _ _ _ _ _ us hl => match us, hl with | [_], _ => rfl) (fun vs H Q E h => ?len) (fun cdv A outer s H vs Q E hr h => ⟨_,
      (pss_one (ps_ret (pe_lc (own := [("word", 1)]) (g := gName 1) rfl sc_Roots_starts.nd (pi_listK (K := K) rfl (pe_mt0 (K := K) rfl (takes_of rfl rfl rfl rfl) (pe_fldC (T.cls 147) (T.noat 150) (pv 0)) c_Hands_row (hr.mono (by decide)))) (blkOk_by (own := [("word", 1)]) (N := ["self", "word"]) (sc := defScope s_Roots_starts) (by decide +kernel)) (fun _ _ _ _ _ => (pg_name (i := 1) sc_Roots_starts.nd rfl (Or.inl rfl))) (fun _ _ _ _ _ => pts_one (pt_cmpR (op_eqK (K := K) rfl hr.units) (pe_fn takes0 c_kind (hr.mono (by decide)) (by rfl) (pa_cons (pv 1) pa_nil)) pe_str (nomark _))) (fun _ _ _ _ _ => (pe_fn takes0 c_worth (hr.mono (by decide)) (by rfl) (pa_cons (pv 1) pa_nil)))))), ?rd⟩)
  case len => first | exact len_Roots_starts h | (repeat (first | (obtain ⟨rfl, _⟩ := h; rfl; done) | obtain ⟨_, h⟩ := h))
  case rd =>
    obtain ⟨r, rx, hh, hx, l, ws, f2, f3, f4, rfl, R, M, q⟩ := h
    walk_at "w2"
    refine ⟨_, fldIs R, recv M.ob, hh, hx, l, ws, rfl, M, fun p1 np1 => ?_⟩
    walk_at "w2"
    have s1 := same_new (o := .lst (ws.map V.int)) np1
    refine ⟨⟨_, .of upd_same⟩, fun D hD => lc_iffL (xs := ws.map V.int) (g := gPlace) (fun _ => rfl) (fun acc => .of ((same_new hD) _ _ upd_same)) (by have := M.sz; rw [List.length_map, sizeLine_eq]; omega) (fun i x hx acc N n1 n2 => ?_) (fun i x y hx hy acc Q2 q2 => ?_) ?_⟩
    · obtain ⟨n, rfl, hn⟩ := ints_mem hx
      obtain ⟨w, ew⟩ := Option.isSome_iff_exists.mp (M.vw n hn)
      rw [gPlace_word ew] at n1 n2
      walk_at "w2"
      rw [ew]
      dsimp only
      cases w with
      | nothing => simp only [k_nn, k_pn, k_Nn, k_np, k_Np, k_pp, not_true_eq_false, not_false_eq_true, if_true, if_false, ite_true, ite_false, Wd.worth]; first | exact n2 rfl | (rw [decide_eq_false (fun z => z)]; exact n2 rfl)
      | num n => simp only [k_nn, k_pn, k_Nn, k_np, k_Np, k_pp, not_true_eq_false, not_false_eq_true, if_true, if_false, ite_true, ite_false, Wd.worth]; first | exact n2 rfl | (rw [decide_eq_false (fun z => z)]; exact n2 rfl)
      | place p => simp only [k_nn, k_pn, k_Nn, k_np, k_Np, k_pp, not_true_eq_false, not_false_eq_true, if_true, if_false, ite_true, ite_false, Wd.worth]; first | exact n1 rfl | (rw [decide_eq_true trivial]; exact n1 rfl)
    · obtain ⟨n, rfl, hn⟩ := ints_mem hx
      obtain ⟨w, ew⟩ := Option.isSome_iff_exists.mp (M.vw n hn)
      rw [gPlace_word ew] at hy
      walk_at "w2"
      rw [x_worth, ew]
      cases w with
      | place p =>
        cases hy
        exact q2
      | _ => cases hy
    · rw [places_map]
      exact q D _ (none_of s1 hD) (s1.trans (same_new hD)) upd_same
theorem f_Roots___init__ (T : Tx K mg) : Mi P w K mg base 4 "Roots" ["self", "many"] (sp_Roots___init__ K) := by
  have c_Hands___init__ := f_Hands___init__ (P := P) (w := w) (base := base) T
  have c_Book___init__ := f_Book___init__ (P := P) (w := w) (base := base) T
  have c_Weak___init__ := f_Weak___init__ (P := P) (w := w) (base := base) T
  have c_Lasts___init__ := f_Lasts___init__ (P := P) (w := w) (base := base) T
  refine T.mkMi 65 148 18 (d := d_Roots___init__) (N := ["self", "many"]) (k := 3) rfl rfl rfl rfl rfl rfl sc_Roots___init__ (fun _ _ _ _ _ _ us hl => match us, hl with | [_, _], _ => rfl) (fun vs H Q E h => ?len) (fun cdv A outer s H vs Q E hr h => ⟨_,
      (pss_cons (ps_fldC (T.cls 147) (T.noat 150) (pv 0) (pe_mk (K := K) rfl (takes_of rfl rfl rfl rfl) c_Hands___init__ (hr.mono (by decide)) (by rfl) (pa_cons (pv 1) pa_nil)))
        (pss_cons (ps_fldC (T.cls 147) (T.noat 151) (pv 0) (pe_mk0 (K := K) rfl (takes_of rfl rfl rfl rfl) c_Book___init__ (hr.mono (by decide)) (by rfl)))
        (pss_cons (ps_fldC (T.cls 147) (T.noat 152) (pv 0) (pe_mk0 (K := K) rfl (takes_of rfl rfl rfl rfl) c_Weak___init__ (hr.mono (by decide)) (by rfl)))
        (pss_one (ps_fldC (T.cls 147) (T.noat 153) (pv 0) (pe_mk0 (K := K) rfl (takes_of rfl rfl rfl rfl) c_Lasts___init__ (hr.mono (by decide)) (by rfl))))))), ?rd⟩)
  case len => first | exact len_Roots___init__ h | (repeat (first | (obtain ⟨rfl, _⟩ := h; rfl; done) | obtain ⟨_, h⟩ := h))
  case rd =>
    obtain ⟨r, dx, v, rfl, HR, th, h⟩ := h
    walk_at "w2"
    intro hh hx nh nhx nhe
    have sm := same_mk (C := He.ga K "Hands") nh nhx nhe
    refine ⟨hh, hx, v, rfl, upd_same, thing_same sm th, ?_⟩
    cases ev : handsV v with
    | none =>
      rw [ev] at h
      exact h _ fun b o _ g => sm _ _ g
    | some n =>
      rw [ev] at h
      dsimp only
      intro l H2 nl M1 k1
      have s1 := same_init nh nhx nhe k1
      have ra : hh ≠ r := (ne_of_none HR nh).symm
      walk_at "w2"
      refine ⟨r, dx, _, rfl, s1 _ _ HR, by decide, ?_⟩
      rw [pi_Roots_hands]
      have k3 : ∀ {c x}, c ≠ r → H2 c = some x → upd H2 r (.ins (He.ga K "Roots") dx [(("hands" : Str), V.ref hh)]) c = some x := fun h g => by rw [upd_ne h]; exact g
      have a3 : upd H2 r (.ins (He.ga K "Roots") dx [(("hands" : Str), V.ref hh)]) r = some (.ins (He.ga K "Roots") dx [(("hands" : Str), V.ref hh)]) := upd_same
      generalize upd H2 r (.ins (He.ga K "Roots") dx [(("hands" : Str), V.ref hh)]) = H3 at k3 a3 ⊢
      intro b bx nb nbx nbe
      refine ⟨b, bx, rfl, upd_same, fun bd H4 nbd B4 k4 => ?_⟩
      have s4 := same_init nb nbx nbe k4
      have ba : b ≠ r := (ne_of_none a3 nb).symm
      walk_at "w2"
      refine ⟨r, dx, _, rfl, s4 _ _ a3, by show 1 < 1000; decide, ?_⟩
      rw [pi_Roots_book]
      have k5 : ∀ {c x}, c ≠ r → H4 c = some x → upd H4 r (.ins (He.ga K "Roots") dx [(("hands" : Str), V.ref hh), ("book", V.ref b)]) c = some x := fun h g => by rw [upd_ne h]; exact g
      have a5 : upd H4 r (.ins (He.ga K "Roots") dx [(("hands" : Str), V.ref hh), ("book", V.ref b)]) r = some (.ins (He.ga K "Roots") dx [(("hands" : Str), V.ref hh), ("book", V.ref b)]) := upd_same
      generalize upd H4 r (.ins (He.ga K "Roots") dx [(("hands" : Str), V.ref hh), ("book", V.ref b)]) = H5 at k5 a5 ⊢
      intro w wx nw nwx nwe
      refine ⟨w, wx, rfl, upd_same, fun wl H6 nwl W6 k6 => ?_⟩
      have s6 := same_init nw nwx nwe k6
      have wa : w ≠ r := (ne_of_none a5 nw).symm
      walk_at "w2"
      refine ⟨r, dx, _, rfl, s6 _ _ a5, by show 2 < 1000; decide, ?_⟩
      rw [pi_Roots_weaks]
      have k7 : ∀ {c x}, c ≠ r → H6 c = some x → upd H6 r (.ins (He.ga K "Roots") dx [(("hands" : Str), V.ref hh), ("book", V.ref b), ("weaks", V.ref w)]) c = some x := fun h g => by rw [upd_ne h]; exact g
      have a7 : upd H6 r (.ins (He.ga K "Roots") dx [(("hands" : Str), V.ref hh), ("book", V.ref b), ("weaks", V.ref w)]) r = some (.ins (He.ga K "Roots") dx [(("hands" : Str), V.ref hh), ("book", V.ref b), ("weaks", V.ref w)]) := upd_same
      generalize upd H6 r (.ins (He.ga K "Roots") dx [(("hands" : Str), V.ref hh), ("book", V.ref b), ("weaks", V.ref w)]) = H7 at k7 a7 ⊢
      intro la lx nla nlx nle
      refine ⟨la, lx, rfl, upd_same, fun d e H8 nd ne L8 k8 => ?_⟩
      have s8 := same_init nla nlx nle k8
      have laa : la ≠ r := (ne_of_none a7 nla).symm
      walk_at "w2"
      refine ⟨r, dx, _, rfl, s8 _ _ a7, by show 3 < 1000; decide, ?_⟩
      rw [pi_Roots_lasts]
      have k9 : ∀ {c x}, c ≠ r → H8 c = some x → upd H8 r (.ins (He.ga K "Roots") dx (F_Roots (.ref hh) (.ref b) (.ref w) (.ref la))) c = some x := fun h g => by rw [upd_ne h]; exact g
      have k69 : ∀ {c x}, c ≠ r → H6 c = some x → upd H8 r (.ins (He.ga K "Roots") dx (F_Roots (.ref hh) (.ref b) (.ref w) (.ref la))) c = some x := fun h g => k9 h (s8 _ _ (k7 h g))
      have k49 : ∀ {c x}, c ≠ r → H4 c = some x → upd H8 r (.ins (He.ga K "Roots") dx (F_Roots (.ref hh) (.ref b) (.ref w) (.ref la))) c = some x := fun h g => k69 h (s6 _ _ (k5 h g))
      have k29 : ∀ {c x}, c ≠ r → H2 c = some x → upd H8 r (.ins (He.ga K "Roots") dx (F_Roots (.ref hh) (.ref b) (.ref w) (.ref la))) c = some x := fun h g => k49 h (s4 _ _ (k3 h g))
      have nn : ∀ {Hi : Hp} {c : Addr}, (∀ {c x}, c ≠ r → H c = some x → Hi c = some x) → c ≠ r → Hi c = none → H c = none := fun {Hi c} k h g => by
        cases e : H c with
        | none => rfl
        | some x =>
          rw [k h e] at g
          cases g
      have lr : ∀ {Hi : Hp} {c : Addr} {o : HO} {xs : List V}, Hi r = some o → (∃ C d fs, o = .ins C d fs) → Hi c = some (.lst xs) → c ≠ r := fun g ⟨C, d, fs, e⟩ g2 => ne_of g2 g (by rw [e]; intro z; cases z)
      have l2 := lr (s1 _ _ HR) ⟨_, _, _, rfl⟩ M1.ls
      have l6 := lr (s6 _ _ a5) ⟨_, _, _, rfl⟩ W6.ls
      have l8 := lr (s8 _ _ a7) ⟨_, _, _, rfl⟩ L8.wa
      have l8' := lr (s8 _ _ a7) ⟨_, _, _, rfl⟩ L8.sk
      have l4 : bd ≠ r := ne_of B4.ds (s4 _ _ a3) (by intro z; cases z)
      have g1 : ∀ {c x}, c ≠ r → H c = some x → H3 c = some x := fun h g => k3 h (s1 _ _ g)
      have g3 : ∀ {c x}, c ≠ r → H c = some x → H5 c = some x := fun h g => k5 h (s4 _ _ (g1 h g))
      have g5 : ∀ {c x}, c ≠ r → H c = some x → H7 c = some x := fun h g => k7 h (s6 _ _ (g3 h g))
      refine h ⟨r, dx, hh, hx, l, b, bx, w, wx, wl, la, lx, d, e⟩ ⟨List.replicate n (-1), bd, [], [], [], [], []⟩ _ rfl rfl ⟨upd_same, ⟨k29 ra M1.ob, k29 l2 M1.ls, M1.vw, M1.sz⟩, ⟨k49 ba B4.ob, k49 l4 B4.ds, B4.nd⟩, ⟨k69 wa W6.ob, k69 l6 W6.ls⟩, ⟨k9 laa L8.ob, k9 l8 L8.wa, WtAll.nil, k9 l8' L8.sk, L8.de⟩, ?_, ?_, ?_, ?_, ?_⟩ ?_ fun b o h g => k9 h (s8 _ _ (g5 h g))
      · exact ne_of_none ((same_mk nw nwx nwe) _ _ (k5 l2 (s4 _ _ (k3 l2 M1.ls)))) nwl
      · exact ne_of_none ((same_mk nla nlx nle) _ _ (k7 l2 (s6 _ _ (k5 l2 (s4 _ _ (k3 l2 M1.ls)))))) nd
      · exact ne_of_none ((same_mk nla nlx nle) _ _ (k7 l2 (s6 _ _ (k5 l2 (s4 _ _ (k3 l2 M1.ls)))))) ne
      · exact ne_of_none ((same_mk nla nlx nle) _ _ (k7 l6 W6.ls)) nd
      · exact ne_of_none ((same_mk nla nlx nle) _ _ (k7 l6 W6.ls)) ne
      · rintro c (rfl | rfl | rfl | rfl | rfl | rfl | rfl | rfl | rfl)
        · exact nh
        · exact none_of sm nl
        · exact nn g1 ba nb
        · exact nn g1 l4 (none_of (same_mk nb nbx nbe) nbd)
        · exact nn g3 wa nw
        · exact nn g3 l6 (none_of (same_mk nw nwx nwe) nwl)
        · exact nn g5 laa nla
        · exact nn g5 l8 (none_of (same_mk nla nlx nle) nd)
        · exact nn g5 l8' (none_of (same_mk nla nlx nle) ne)
end

local macro_rules | `(tactic| walk_at "w2") => `(tactic| try simp only [↓x_var0, ↓x_varS, ↓x_c, ↓x_op, ↓x_un, ↓x_cb, ↓x_nil, ↓x_cons, ↓x_test, ↓x_b, ↓x_ex, ↓x_and, ↓x_or, ↓x_not, ↓x_andV, ↓x_orV, ↓x_notV, ↓x_tif, ↓x_chain, ↓x_menu, ↓x_menuI, ↓x_lst, ↓x_tup, ↓x_dnew, ↓x_callW, ↓x_callN, ↓x_seq, ↓x_next, ↓x_ret, ↓x_retN, ↓x_drop, ↓x_ifS, ↓x_asg, ↓x_name, ↓x_raise, ↓x_fld, ↓x_setF, ↓x_meth, ↓x_make, ↓x_sub, ↓r_min, ↓r_max, ↓x_yes, ↓x_for, ↓x_lock, ↓x_keys, ↓x_cut, ↓x_lc, ↓x_rng1, ↓x_rng2, ↓x_lst1, ↓x_itup, ↓x_rng3, ↓x_three, ↓x_lstg, ↓x_tupg, ↓x_adrS, ↓x_one, ↓x_two, ↓x_adr, ↓x_sl, ↓x_np, ↓x_pt, ↓x_int, ↓x_bm, ↓x_bm0, ↓x_consg, ↓x_nilg, ↓x_dget2, ↓x_dget1, ↓x_dget, ↓x_din, ↓x_dni, ↓x_dput, ↓x_dpop2, ↓r_isB, ↓r_notB, ↓x_enum, ↓x_zip, ↓x_str, ↓x_strE, ↓r_inS, ↓r_ninS, wipe, List.map_cons, List.map_nil, ↓x_isT, ↓r_isiII, ↓r_isiBB, ↓r_isiIB, ↓r_isiSS, ↓r_neNS, ↓r_neSN, ↓r_neNN, ↓r_eqNS, ↓r_eqSN, ↓r_eqNN, ↓r_eqIS, ↓r_neIS, ↓r_neSI, ↓r_neBS, ↓r_eqBB, ↓r_neBB, ↓x_start, ↓x_K, ↓x_start0, ↓r_i0, ↓r_i, ↓r_u, ↓r_addI, ↓r_addS, ↓r_mulI, ↓r_mulS, ↓r_eqI, ↓r_neI, ↓r_eqS, ↓r_neS, ↓r_absI, ↓r_intI, ↓r_intB, List.length_cons, List.length_nil, List.replicate, List.set_cons_zero, List.set_cons_succ, decide_eq_true_eq, Bool.not_eq_true', decide_eq_false_iff_not, if_true, if_false, Bool.false_eq_true, Bool.true_eq_false, ite_true, ite_false, Bool.not_true, Bool.not_false, c_div, n_ten, c_pow, not_true_eq_false, not_false_eq_true, decide_true, decide_false, true_and, and_true, and_self, true_or, or_true, Int.reduceLT, Int.reduceLE, Int.reduceMul, Int.reduceAdd, Int.reduceSub, Int.reducePow, Int.reduceNeg, Int.reduceDiv, Int.reduceMod, Nat.reducePow, Int.reduceToNat, Int.reduceEq, Int.reduceNe, Nat.reduceLT, Nat.reduceLeDiff, Nat.reduceAdd, ↓x_whole, ↓x_kind])
/-! ## heaps -/
structure HpA where
  (g gx : Addr) (A : ArA) (R : RoA)
structure HeapO (K : PySem.W.Frag) (H : Hp) (G : HpA) (S : ArS) (T : RoS) : Prop where
  ob : H G.g = some (.ins (He.ga K "Heap") G.gx (F_Heap (.ref G.R.r) (.ref G.A.a)))
  ar : ArO K H G.A S
  ro : RootO K H G.R T
  m1 : G.A.l ≠ G.R.hl
  m2 : G.A.l ≠ G.R.wl
  m3 : G.A.l ≠ G.R.d
  m4 : G.A.l ≠ G.R.e
theorem HeapO.same {K H H' G S T} (h : HeapO K H G S T) (s : Same H H') : HeapO K H' G S T := { h with ob := s _ _ h.ob, ar := h.ar.same s, ro := h.ro.same s }
theorem RootO.ar {K H H' R T A S} (h : RootO K H R T) (I : ArO K H A S) (m1 : A.l ≠ R.hl) (m2 : A.l ≠ R.wl) (m3 : A.l ≠ R.d) (m4 : A.l ≠ R.e) (k : ∀ b o, b ≠ A.l → b ≠ A.o → b ≠ A.p → b ≠ A.q → H b = some o → H' b = some o) : RootO K H' R T := by
  have f : ∀ {b o}, H b = some o → (∀ xs, o ≠ .lst xs) → (∀ dx b e t, o ≠ SpV K dx b e t) → H' b = some o := fun g n1 n2 => k _ _ (ne_of g I.me.ls (n1 _)) (ne_of g I.so (n2 _ _ _ _)) (ne_of g I.sp (n2 _ _ _ _)) (ne_of g I.sq (n2 _ _ _ _)) g
  have l : ∀ {b xs}, H b = some (.lst xs) → A.l ≠ b → H' b = some (.lst xs) := fun g n => k _ _ n.symm (ne_of g I.so fun z => spv_lst z.symm) (ne_of g I.sp fun z => spv_lst z.symm) (ne_of g I.sq fun z => spv_lst z.symm) g
  have i : ∀ {b C d fs}, H b = some (.ins C d fs) → fs.length ≠ 3 → H' b = some (.ins C d fs) := fun g n => f g (fun _ z => by cases z) (fun _ _ _ _ z => spv_fs n z.symm)
  exact { h with ob := i h.ob (by show 4 ≠ 3; decide), ho := ⟨i h.ho.ob (by show 1 ≠ 3; decide), l h.ho.ls m1, h.ho.vw, h.ho.sz⟩, bo := ⟨i h.bo.ob (by show 1 ≠ 3; decide), f h.bo.ds (fun _ z => by cases z) (fun _ _ _ _ z => by cases z), h.bo.nd⟩, wo := ⟨i h.wo.ob (by show 1 ≠ 3; decide), l h.wo.ls m2⟩, lo := ⟨i h.lo.ob (by show 2 ≠ 3; decide), l h.lo.wa m3, h.lo.wt.fr fun c xs e => f e (fun _ z => by cases z) (fun _ _ _ _ z => by cases z), l h.lo.sk m4, h.lo.de⟩ }
theorem RootO.hput {K H R T} (h : RootO K H R T) {i : Nat} {n : Int} (hn : (wordOf n).isSome = true) : RootO K (upd H R.hl (.lst ((T.hs.set i n).map V.int))) R { T with hs := T.hs.set i n } := by
  have f : ∀ {b o}, H b = some o → (∀ xs, o ≠ .lst xs) → upd H R.hl (.lst ((T.hs.set i n).map V.int)) b = some o := fun g n => (upd_ne (ne_of g h.ho.ls (n _))).trans g
  have n1 : ∀ {C d fs xs}, HO.ins C d fs ≠ .lst xs := fun z => by cases z
  exact { h with ob := f h.ob (fun _ => n1), ho := h.ho.put hn, bo := ⟨f h.bo.ob (fun _ => n1), f h.bo.ds (fun _ z => by cases z), h.bo.nd⟩, wo := ⟨f h.wo.ob (fun _ => n1), (upd_ne h.n1.symm).trans h.wo.ls⟩, lo := ⟨f h.lo.ob (fun _ => n1), (upd_ne h.n2.symm).trans h.lo.wa, h.lo.wt.put h.ho.ls (fun _ z => by cases z), (upd_ne h.n3.symm).trans h.lo.sk, h.lo.de⟩ }
theorem RootO.bput {K H R T} (h : RootO K H R T) {qs : List Int} (n : qs.Nodup) : RootO K (upd H T.bd (.dK (bk qs))) R { T with bs := qs } := by
  have f : ∀ {b o}, H b = some o → (∀ xs, o ≠ .dK xs) → upd H T.bd (.dK (bk qs)) b = some o := fun g n => (upd_ne (ne_of g h.bo.ds (n _))).trans g
  have n1 : ∀ {C d fs xs}, HO.ins C d fs ≠ .dK xs := fun z => by cases z
  have n2 : ∀ {ys xs}, HO.lst ys ≠ .dK xs := fun z => by cases z
  exact { h with ob := f h.ob (fun _ => n1), ho := ⟨f h.ho.ob (fun _ => n1), f h.ho.ls (fun _ => n2), h.ho.vw, h.ho.sz⟩, bo := h.bo.put n, wo := ⟨f h.wo.ob (fun _ => n1), f h.wo.ls (fun _ => n2)⟩, lo := ⟨f h.lo.ob (fun _ => n1), f h.lo.wa (fun _ => n2), h.lo.wt.put h.bo.ds (fun _ z => by cases z), f h.lo.sk (fun _ => n2), h.lo.de⟩ }
/-- the areas change -/
theorem HeapO.arS {K H H' G S S' T} (h : HeapO K H G S T) (I : ArO K H' G.A S') (k : ∀ b o, b ≠ G.A.l → b ≠ G.A.o → b ≠ G.A.p → b ≠ G.A.q → H b = some o → H' b = some o) : HeapO K H' G S' T :=
  { h with ob := k _ _ (ne_of h.ob h.ar.me.ls (by intro z; cases z)) (ne_of h.ob h.ar.so fun z => spv_fs (by show 2 ≠ 3; decide) z.symm) (ne_of h.ob h.ar.sp fun z => spv_fs (by show 2 ≠ 3; decide) z.symm) (ne_of h.ob h.ar.sq fun z => spv_fs (by show 2 ≠ 3; decide) z.symm) h.ob, ar := I, ro := h.ro.ar h.ar h.m1 h.m2 h.m3 h.m4 k }
theorem HeapO.hput {K H G S T} (h : HeapO K H G S T) {i : Nat} {n : Int} (hn : (wordOf n).isSome = true) : HeapO K (upd H G.R.hl (.lst ((T.hs.set i n).map V.int))) G S { T with hs := T.hs.set i n } :=
  { h with ob := (upd_ne (ne_of h.ob h.ro.ho.ls (by intro z; cases z))).trans h.ob, ar := h.ar.put h.ro.ho.ls h.m1, ro := h.ro.hput hn }
theorem HeapO.bput {K H G S T} (h : HeapO K H G S T) {qs : List Int} (n : qs.Nodup) : HeapO K (upd H T.bd (.dK (bk qs))) G S { T with bs := qs } :=
  { h with ob := (upd_ne (ne_of h.ob h.ro.bo.ds (by intro z; cases z))).trans h.ob, ar := h.ar.off (ne_of h.ar.me.ls h.ro.bo.ds (by intro z; cases z)) (fun C d fs g => by rw [h.ro.bo.ds] at g; cases g), ro := h.ro.bput n }
theorem HeapO.wput {K H G S T} (h : HeapO K H G S T) {ws : List Int} (vw : Vw ws) (e : ws.length = S.ws.length) : HeapO K (upd H G.A.l (.lst (ws.map V.int))) G { S with ws := ws } T :=
  h.arS (h.ar.words (h.ar.me.put ws e) (fun b o n g => (upd_ne n).trans g) vw e) fun b o n _ _ _ g => (upd_ne n).trans g
/-- none of the heap's own lists -/
def OffL (G : HpA) (c : Addr) : Prop := c ≠ G.A.l ∧ c ≠ G.R.hl ∧ c ≠ G.R.wl ∧ c ≠ G.R.d ∧ c ≠ G.R.e
theorem HeapO.fr {K H H' G S T} (h : HeapO K H G S T) (k : ∀ b o, H b = some o → (∀ xs, o = .lst xs → ¬ OffL G b) → (∀ kv, o = .dK kv → b = T.bd) → H' b = some o) : HeapO K H' G S T := by
  have i : ∀ {b C d fs}, H b = some (.ins C d fs) → H' b = some (.ins C d fs) := fun g => k _ _ g (fun _ z => by cases z) (fun _ z => by cases z)
  have l : ∀ {b xs}, H b = some (.lst xs) → ¬ OffL G b → H' b = some (.lst xs) := fun g n => k _ _ g (fun _ _ => n) (fun _ z => by cases z)
  exact { h with ob := i h.ob, ar := { h.ar with ob := i h.ar.ob, me := ⟨i h.ar.me.ob, l h.ar.me.ls (fun z => z.1 rfl), h.ar.me.sz⟩, so := i h.ar.so, sp := i h.ar.sp, sq := i h.ar.sq }, ro := { h.ro with ob := i h.ro.ob, ho := ⟨i h.ro.ho.ob, l h.ro.ho.ls (fun z => z.2.1 rfl), h.ro.ho.vw, h.ro.ho.sz⟩, bo := ⟨i h.ro.bo.ob, k _ _ h.ro.bo.ds (fun _ z => by cases z) (fun _ _ => rfl), h.ro.bo.nd⟩, wo := ⟨i h.ro.wo.ob, l h.ro.wo.ls (fun z => z.2.2.1 rfl)⟩, lo := ⟨i h.ro.lo.ob, l h.ro.lo.wa (fun z => z.2.2.2.1 rfl), h.ro.lo.wt.fr fun c xs e => k _ _ e (fun _ z => by cases z) (fun _ z => by cases z), l h.ro.lo.sk (fun z => z.2.2.2.2 rfl), h.ro.lo.de⟩ } }
theorem HeapO.off {K H G S T} (h : HeapO K H G S T) {c : Addr} {xs : List V} {o : HO} (e : H c = some (.lst xs)) (n : OffL G c) : HeapO K (upd H c o) G S T :=
  h.fr fun b o' g n1 _ => by
    by_cases z : b = c
    · subst z
      rw [e] at g
      cases g
      exact absurd n (n1 _ rfl)
    · exact (upd_ne z).trans g
theorem HeapO.offD {K H G S T} (h : HeapO K H G S T) {c : Addr} {kv : List (Key × V)} {o : HO} (e : H c = some (.dK kv)) (n : c ≠ T.bd) : HeapO K (upd H c o) G S T :=
  h.fr fun b o' g _ n2 => by
    by_cases z : b = c
    · subst z
      rw [e] at g
      cases g
      exact absurd (n2 _ rfl) n
    · exact (upd_ne z).trans g
/-- does a word tell a young place -/
def yngW (S : ArS) (n : Int) : Bool := match wordOf n with
  | some (.place p) => decide (areaW S p = .str "young")
  | _ => false
inductive Mk2 where
  | hand | count | room | ok (i s : Nat)
  deriving DecidableEq
/-- is a cell of so many slots laid in old -/
def inOld (S : ArS) (s : Nat) : Bool := !decide (s + 1 ≤ S.k)
def mkW (S : ArS) (hs : List Int) (v z : V) : Mk2 := match placeOf hs.length v with
  | none => .hand
  | some i => match slotsW z with
    | none => .count
    | some s => if s + 1 ≤ endA S (inOld S s) - topA S (inOld S s) then .ok i s else .room
inductive Gt where
  | hand | held | place | cell | slot | ok (p : Nat) (at_ : Nat)
  deriving DecidableEq
/-- the place of a slot of a hand's cell -/
def gtW (S : ArS) (hs : List Int) (v z : V) : Gt := match placeOf hs.length v with
  | none => .hand
  | some i => match wordOf (hs.getD i 0) with
    | some (.place p) => match headW S.ws (.int p) with
      | .noPlace => .place
      | .noCell => .cell
      | .ok a h => match placeOf (h / 4) z with
        | none => .slot
        | some s => .ok (a + 1 + s) a
    | _ => .held
theorem gt_fit {S : ArS} (f : Fit S.ws) {hs : List Int} {v z : V} {p a : Nat} (e : gtW S hs v z = .ok p a) : p < S.ws.length := by
  unfold gtW at e
  split at e
  · cases e
  · split at e
    · split at e
      · cases e
      · cases e
      · rename_i a' h eh
        split at e
        · cases e
        · rename_i s es
          cases e
          obtain ⟨-, ha, hk⟩ := head_ok eh
          obtain ⟨-, hs⟩ := placeOf_some es
          have := f _ _ ha hk
          omega
    · cases e
def bookW (S : ArS) (bs : List Int) (a p : Nat) (n : Int) : List Int := if areaW S a = .str "old" ∧ yngW S n = true then addP bs p else delP bs p
def sp_Heap___init__ (K : PySem.W.Frag) : Sp := fun vs H Q E => ∃ g gx v1 v2 v3, vs = [.ref g, v1, v2, v3] ∧ H g = some (.ins (He.ga K "Heap") gx []) ∧ Thing H v1 ∧ Thing H v2 ∧ Thing H v3 ∧
  ((handsV v1 = none ∨ oldV v2 = none ∨ youngV v3 = none) → ∀ H', (∀ b o, b ≠ g → H b = some o → H' b = some o) → E (Ex K "BadCount") none H') ∧
  ∀ n o y, handsV v1 = some n → oldV v2 = some o → youngV v3 = some y → ∀ G T H', G.g = g → T = ⟨List.replicate n (-1), T.bd, [], [], [], [], []⟩ → HeapO K H' G (arS o y) T →
    (∀ c, c = G.A.a ∨ c = G.A.l ∨ c = G.A.o ∨ c = G.A.p ∨ c = G.A.q ∨ c = G.R.h ∨ c = G.R.hl ∨ c = G.R.b ∨ c = T.bd ∨ c = G.R.w ∨ c = G.R.wl ∨ c = G.R.la ∨ c = G.R.d ∨ c = G.R.e → H c = none) → (∀ b o, b ≠ g → H b = some o → H' b = some o) → Q .non H'
def sp_Heap_held (K : PySem.W.Frag) : Sp := fun vs H Q E => ∃ G S T v, vs = [.ref G.g, v] ∧ HeapO K H G S T ∧ Thing H v ∧ match placeOf T.hs.length v with
  | some i => Q (.int (T.hs.getD i 0)) H
  | none => E (Ex K "NoHand") none H
def sp_Heap_hold (K : PySem.W.Frag) : Sp := fun vs H Q E => ∃ G S T v z, vs = [.ref G.g, v, z] ∧ HeapO K H G S T ∧ Thing H v ∧ Thing H z ∧ match placeOf T.hs.length v with
  | some i => (match wordV z with
    | some n => Q .non (upd H G.R.hl (.lst ((T.hs.set i n).map V.int)))
    | none => E (Ex K "BadWord") none H)
  | none => E (Ex K "NoHand") none H
def sp_Heap_drop (K : PySem.W.Frag) : Sp := fun vs H Q E => ∃ G S T v, vs = [.ref G.g, v] ∧ HeapO K H G S T ∧ Thing H v ∧ match placeOf T.hs.length v with
  | some i => Q .non (upd H G.R.hl (.lst ((T.hs.set i (-1)).map V.int)))
  | none => E (Ex K "NoHand") none H
def sp_Heap_make (K : PySem.W.Frag) : Sp := fun vs H Q E => ∃ G S T v z, vs = [.ref G.g, v, z] ∧ HeapO K H G S T ∧ Thing H v ∧ Thing H z ∧ match mkW S T.hs v z with
  | .hand => E (Ex K "NoHand") none H
  | .count => E (Ex K "BadCount") none H
  | .room => E (Ex K "NoRoom") none H
  | .ok i s => ∀ H', HeapO K H' G (laidS S (inOld S s) s) { T with hs := T.hs.set i (2 * (topA S (inOld S s) : Int) + 1) } → (∀ b o, b ≠ G.A.l → b ≠ G.A.o → b ≠ G.A.p → b ≠ G.A.q → b ≠ G.R.hl → H b = some o → H' b = some o) → Q (.int (topA S (inOld S s) : Int)) H'
def sp_Heap_cell_of (K : PySem.W.Frag) : Sp := fun vs H Q E => ∃ G S T v, vs = [.ref G.g, v] ∧ HeapO K H G S T ∧ Thing H v ∧ match placeOf T.hs.length v with
  | none => E (Ex K "NoHand") none H
  | some i => match wordOf (T.hs.getD i 0) with
    | some (.place p) => Q (.int p) H
    | _ => E (Ex K "NothingHeld") none H
def sp_Heap_get (K : PySem.W.Frag) : Sp := fun vs H Q E => ∃ G S T v z, vs = [.ref G.g, v, z] ∧ HeapO K H G S T ∧ (∀ p a, gtW S T.hs v z = .ok p a → p < S.ws.length) ∧ Thing H v ∧ Thing H z ∧ match gtW S T.hs v z with
  | .hand => E (Ex K "NoHand") none H
  | .held => E (Ex K "NothingHeld") none H
  | .place => E (Ex K "NoPlace") none H
  | .cell => E (Ex K "NoCell") none H
  | .slot => E (Ex K "NoSlot") none H
  | .ok p _ => Q (.int (S.ws.getD p 0)) H
def sp_Heap_put (K : PySem.W.Frag) : Sp := fun vs H Q E => ∃ G S T v z x, vs = [.ref G.g, v, z, x] ∧ HeapO K H G S T ∧ (∀ p a, gtW S T.hs v z = .ok p a → p < S.ws.length) ∧ T.bs.length < 1000000 ∧ Thing H v ∧ Thing H z ∧ Thing H x ∧ match gtW S T.hs v z with
  | .hand => E (Ex K "NoHand") none H
  | .held => E (Ex K "NothingHeld") none H
  | .place => E (Ex K "NoPlace") none H
  | .cell => E (Ex K "NoCell") none H
  | .slot => E (Ex K "NoSlot") none H
  | .ok p a => match wordV x with
    | none => E (Ex K "BadWord") none H
    | some n => ∀ H', HeapO K H' G { S with ws := S.ws.set p n } { T with bs := bookW S T.bs a p n } → (∀ b o, b ≠ G.A.l → b ≠ T.bd → H b = some o → H' b = some o) → Q .non H'
def sp_Heap_is_young (K : PySem.W.Frag) : Sp := fun vs H Q _ => ∃ G S T n, vs = [.ref G.g, .int n] ∧ HeapO K H G S T ∧ (wordOf n).isSome = true ∧ Q (.bl (yngW S n)) H
section
variable {P : Program} {w : World} {K : PySem.W.Frag} {mg : Str → Option Value} {base : Heap}
theorem f_Heap___init__ (T : Tx K mg) : Mi P w K mg base 6 "Heap" ["self", "hands", "old_words", "young_words"] (sp_Heap___init__ K) := by
  have c_Roots___init__ := f_Roots___init__ (P := P) (w := w) (base := base) T
  have c_Areas___init__ := f_Areas___init__ (P := P) (w := w) (base := base) T
  refine T.mkMi 67 155 19 (d := d_Heap___init__) (N := ["self", "hands", "old_words", "young_words"]) (k := 5) rfl rfl rfl rfl rfl rfl sc_Heap___init__ (fun _ _ _ _ _ _ us hl => match us, hl with | [_, _, _, _], _ => rfl) (fun vs H Q E h => ?len) (fun cdv A outer s H vs Q E hr h => ⟨_,
      (pss_cons (ps_fldC (T.cls 154) (T.noat 164) (pv 0) (pe_mk (K := K) rfl (takes_of rfl rfl rfl rfl) c_Roots___init__ (hr.mono (by decide)) (by rfl) (pa_cons (pv 1) pa_nil)))
        (pss_one (ps_fldC (T.cls 154) (T.noat 165) (pv 0) (pe_mk (K := K) rfl (takes_of rfl rfl rfl rfl) c_Areas___init__ (hr.mono (by decide)) (by rfl) (pa_cons (pv 2) (pa_cons (pv 3) pa_nil)))))), ?rd⟩)
  case len => first | exact len_Heap___init__ h | (repeat (first | (obtain ⟨rfl, _⟩ := h; rfl; done) | obtain ⟨_, h⟩ := h))
  case rd =>
    obtain ⟨g, gx, v1, v2, v3, rfl, HG, t1, t2, t3, hb, hg⟩ := h
    walk_at "w2"
    intro r rx nr nrx nre
    have sm := same_mk (C := He.ga K "Roots") nr nrx nre
    refine ⟨r, rx, v1, rfl, upd_same, thing_same sm t1, ?_⟩
    cases e1 : handsV v1 with
    | none =>
      intro H' k
      exact hb (.inl e1) H' fun b o _ g => k _ _ (ne_of_none g nr) (sm _ _ g)
    | some n =>
      intro A T H2 eA eT R2 zr k2
      subst eA
      have s1 := same_init nr nrx nre k2
      have tk : ∀ {v : V}, Thing H v → Thing (upd H2 g (.ins (He.ga K "Heap") gx [(("roots" : Str), V.ref A.r)])) v := fun t => thing_upd (s1 _ _ HG) rfl (thing_same s1 t)
      walk_at "w2"
      refine ⟨g, gx, _, rfl, s1 _ _ HG, by decide, ?_⟩
      rw [pi_Heap_roots]
      have k3 : ∀ {c x}, c ≠ g → H2 c = some x → upd H2 g (.ins (He.ga K "Heap") gx [(("roots" : Str), V.ref A.r)]) c = some x := fun h g => by rw [upd_ne h]; exact g
      have a3 : upd H2 g (.ins (He.ga K "Heap") gx [(("roots" : Str), V.ref A.r)]) g = some (.ins (He.ga K "Heap") gx [(("roots" : Str), V.ref A.r)]) := upd_same
      have t2' := tk t2
      have t3' := tk t3
      generalize upd H2 g (.ins (He.ga K "Heap") gx [(("roots" : Str), V.ref A.r)]) = H3 at k3 a3 t2' t3' ⊢
      have k03 : ∀ {c x}, c ≠ g → H c = some x → H3 c = some x := fun h g => k3 h (s1 _ _ g)
      intro a ax na nax nae
      have sm2 := same_mk (C := He.ga K "Areas") na nax nae
      refine ⟨a, ax, v2, v3, rfl, upd_same, thing_same sm2 t2', thing_same sm2 t3', ?_⟩
      cases e2 : oldV v2 with
      | none => exact hb (.inr (.inl e2)) _ fun b o h g => sm2 _ _ (k03 h g)
      | some o =>
        cases e3 : youngV v3 with
        | none => exact hb (.inr (.inr e3)) _ fun b o h g => sm2 _ _ (k03 h g)
        | some y =>
          intro B H4 eB I4 nl no np nq nm k4
          subst eB
          have s4 := same_init na nax nae k4
          walk_at "w2"
          refine ⟨g, gx, _, rfl, s4 _ _ a3, by show 1 < 1000; decide, ?_⟩
          rw [pi_Heap_areas]
          have nn : ∀ {c : Addr}, c ≠ g → H3 c = none → H c = none := fun {c} h g => by
            cases e : H c with
            | none => rfl
            | some x =>
              rw [k03 h e] at g
              cases g
          have ig : ∀ {c C d fs}, H4 c = some (.ins C d fs) → fs.length ≠ 1 → c ≠ g := fun h n => ne_of h (s4 _ _ a3) fun z => by
            have e := congrArg List.length (HO.ins.inj z).2.2
            exact n e
          have ig2 : ∀ {c C d fs}, H2 c = some (.ins C d fs) → H c = none → c ≠ g := fun h n => (ne_of_none HG n).symm
          have lg : ∀ {c xs}, H4 c = some (.lst xs) → c ≠ g := fun h => ne_of h (s4 _ _ a3) (by intro z; cases z)
          have k24 : ∀ {c x}, c ≠ g → H2 c = some x → H4 c = some x := fun h g => s4 _ _ (k3 h g)
          have R4 : RootO K H4 A T := by
            have ng : ∀ c, c = A.h ∨ c = A.hl ∨ c = A.b ∨ c = T.bd ∨ c = A.w ∨ c = A.wl ∨ c = A.la ∨ c = A.d ∨ c = A.e → c ≠ g := fun c m => (ne_of_none HG (none_of sm (zr c m))).symm
            exact { R2 with ob := k24 (ne_of_none HG nr).symm R2.ob, ho := ⟨k24 (ng _ (.inl rfl)) R2.ho.ob, k24 (ng _ (.inr (.inl rfl))) R2.ho.ls, R2.ho.vw, R2.ho.sz⟩, bo := ⟨k24 (ng _ (.inr (.inr (.inl rfl)))) R2.bo.ob, k24 (ng _ (.inr (.inr (.inr (.inl rfl))))) R2.bo.ds, R2.bo.nd⟩, wo := ⟨k24 (ng _ (.inr (.inr (.inr (.inr (.inl rfl)))))) R2.wo.ob, k24 (ng _ (.inr (.inr (.inr (.inr (.inr (.inl rfl))))))) R2.wo.ls⟩, lo := ⟨k24 (ng _ (.inr (.inr (.inr (.inr (.inr (.inr (.inl rfl)))))))) R2.lo.ob, k24 (ng _ (.inr (.inr (.inr (.inr (.inr (.inr (.inr (.inl rfl))))))))) R2.lo.wa, R2.lo.wt.fr fun c xs e => k24 (fun z => by rw [z, s1 _ _ HG] at e; cases e) e, k24 (ng _ (.inr (.inr (.inr (.inr (.inr (.inr (.inr (.inr rfl))))))))) R2.lo.sk, R2.lo.de⟩ }
          have up : ∀ {c x}, c ≠ g → H4 c = some x → upd H4 g (.ins (He.ga K "Heap") gx (F_Heap (.ref A.r) (.ref B.a))) c = some x := fun h g => by rw [upd_ne h]; exact g
          have nB : ∀ {c}, upd (upd H3 ax (.own B.a)) B.a (.ins (He.ga K "Areas") ax []) c = none → c ≠ g := fun h => (ne_of_none (sm2 _ _ a3) h).symm
          have I5 : ArO K (upd H4 g (.ins (He.ga K "Heap") gx (F_Heap (.ref A.r) (.ref B.a)))) B (arS o y) := { I4 with ob := up (ne_of_none a3 na).symm I4.ob, me := ⟨up (nB nm) I4.me.ob, up (nB nl) I4.me.ls, I4.me.sz⟩, so := up (nB no) I4.so, sp := up (nB np) I4.sp, sq := up (nB nq) I4.sq }
          have ng4 : ∀ {c}, H c = none → c ≠ g := fun n => (ne_of_none HG n).symm
          have zr' : ∀ c, c = A.h ∨ c = A.hl ∨ c = A.b ∨ c = T.bd ∨ c = A.w ∨ c = A.wl ∨ c = A.la ∨ c = A.d ∨ c = A.e → H c = none := fun c m => none_of sm (zr c m)
          have R5 : RootO K (upd H4 g (.ins (He.ga K "Heap") gx (F_Heap (.ref A.r) (.ref B.a)))) A T :=
            { R4 with ob := up (ng4 nr) R4.ob, ho := ⟨up (ng4 (zr' _ (.inl rfl))) R4.ho.ob, up (lg R4.ho.ls) R4.ho.ls, R4.ho.vw, R4.ho.sz⟩, bo := ⟨up (ng4 (zr' _ (.inr (.inr (.inl rfl))))) R4.bo.ob, up (ng4 (zr' _ (.inr (.inr (.inr (.inl rfl)))))) R4.bo.ds, R4.bo.nd⟩, wo := ⟨up (ng4 (zr' _ (.inr (.inr (.inr (.inr (.inl rfl))))))) R4.wo.ob, up (lg R4.wo.ls) R4.wo.ls⟩, lo := ⟨up (ng4 (zr' _ (.inr (.inr (.inr (.inr (.inr (.inr (.inl rfl))))))))) R4.lo.ob, up (lg R4.lo.wa) R4.lo.wa, R4.lo.wt.fr fun c xs e => up (fun z => by rw [z, s4 _ _ a3] at e; cases e) e, up (lg R4.lo.sk) R4.lo.sk, R4.lo.de⟩ }
          have nl3 : ∀ {c xs}, H2 c = some (.lst xs) → c ≠ g → B.l ≠ c := fun h n => (ne_of_none (sm2 _ _ (k3 n h)) nl).symm
          refine hg n o y e1 e2 e3 ⟨g, gx, B, A⟩ T _ rfl eT ⟨upd_same, I5, R5, nl3 R2.ho.ls (ng4 (zr' _ (.inr (.inl rfl)))), nl3 R2.wo.ls (ng4 (zr' _ (.inr (.inr (.inr (.inr (.inr (.inl rfl)))))))), nl3 R2.lo.wa (ng4 (zr' _ (.inr (.inr (.inr (.inr (.inr (.inr (.inr (.inl rfl))))))))) ), nl3 R2.lo.sk (ng4 (zr' _ (.inr (.inr (.inr (.inr (.inr (.inr (.inr (.inr rfl))))))))))⟩ ?_ fun b o h g => up h (s4 _ _ (k03 h g))
          have nn3 : ∀ {c}, upd (upd H3 ax (.own B.a)) B.a (.ins (He.ga K "Areas") ax []) c = none → H c = none := fun h => nn (nB h) (none_of sm2 h)
          rintro c (rfl | rfl | rfl | rfl | rfl | rfl | rfl | rfl | rfl | rfl | rfl | rfl | rfl | rfl)
          · exact nn (ne_of_none a3 na).symm na
          · exact nn3 nl
          · exact nn3 no
          · exact nn3 np
          · exact nn3 nq
          · exact zr' _ (.inl rfl)
          · exact zr' _ (.inr (.inl rfl))
          · exact zr' _ (.inr (.inr (.inl rfl)))
          · exact zr' _ (.inr (.inr (.inr (.inl rfl))))
          · exact zr' _ (.inr (.inr (.inr (.inr (.inl rfl)))))
          · exact zr' _ (.inr (.inr (.inr (.inr (.inr (.inl rfl))))))
          · exact zr' _ (.inr (.inr (.inr (.inr (.inr (.inr (.inl rfl)))))))
          · exact zr' _ (.inr (.inr (.inr (.inr (.inr (.inr (.inr (.inl rfl))))))))
          · exact zr' _ (.inr (.inr (.inr (.inr (.inr (.inr (.inr (.inr rfl))))))))
theorem f_Heap_held (T : Tx K mg) : Mt P w K mg base 4 "Heap" "held" ["self", "hand"] (sp_Heap_held K) := by
  have c_Hands_get := f_Hands_get (P := P) (w := w) (base := base) T
  refine T.mkMt 69 157 154 (d := d_Heap_held) (N := ["self", "hand"]) (k := 3) rfl rfl rfl rfl rfl rfl sc_Heap_held (fun _ _ _ _ _ _ us hl => match us, hl with | [_, _], _ => rfl) (fun vs H Q E h => ?len) (fun cdv A outer s H vs Q E hr h => ⟨_,
      (pss_one (ps_ret (pe_mt (K := K) rfl (takes_of rfl rfl rfl rfl) (pe_fldC (T.cls 147) (T.noat 150) (pe_fldC (T.cls 154) (T.noat 164) (pv 0))) c_Hands_get (hr.mono (by decide)) (pa_cons (pv 1) pa_nil)))), ?rd⟩)
  case len => first | exact len_Heap_held h | (repeat (first | (obtain ⟨rfl, _⟩ := h; rfl; done) | obtain ⟨_, h⟩ := h))
  case rd =>
    obtain ⟨G, S, T, v, rfl, I, th, h⟩ := h
    walk_at "w2"
    exact ⟨_, fldIs I.ob, _, fldIs I.ro.ob, recv I.ro.ho.ob, G.R.h, G.R.hx, G.R.hl, _, v, rfl, I.ro.ho, th, h⟩
theorem f_Heap_hold (T : Tx K mg) : Mt P w K mg base 4 "Heap" "hold" ["self", "hand", "word"] (sp_Heap_hold K) := by
  have c_Hands_put := f_Hands_put (P := P) (w := w) (base := base) T
  refine T.mkMt 70 158 154 (d := d_Heap_hold) (N := ["self", "hand", "word"]) (k := 3) rfl rfl rfl rfl rfl rfl sc_Heap_hold (fun _ _ _ _ _ _ us hl => match us, hl with | [_, _, _], _ => rfl) (fun vs H Q E h => ?len) (fun cdv A outer s H vs Q E hr h => ⟨_,
      (pss_one (ps_expr (pe_mt (K := K) rfl (takes_of rfl rfl rfl rfl) (pe_fldC (T.cls 147) (T.noat 150) (pe_fldC (T.cls 154) (T.noat 164) (pv 0))) c_Hands_put (hr.mono (by decide)) (pa_cons (pv 1) (pa_cons (pv 2) pa_nil))))), ?rd⟩)
  case len => first | exact len_Heap_hold h | (repeat (first | (obtain ⟨rfl, _⟩ := h; rfl; done) | obtain ⟨_, h⟩ := h))
  case rd =>
    obtain ⟨G, S, T, v, z, rfl, I, th, tz, h⟩ := h
    walk_at "w2"
    exact ⟨_, fldIs I.ob, _, fldIs I.ro.ob, recv I.ro.ho.ob, G.R.h, G.R.hx, G.R.hl, _, v, z, rfl, I.ro.ho, th, tz, h⟩
theorem f_Heap_cell_of (T : Tx K mg) : Mt P w K mg base 5 "Heap" "cell_of" ["self", "hand"] (sp_Heap_cell_of K) := by
  have c_Heap_held := f_Heap_held (P := P) (w := w) (base := base) T
  have c_kind := f_kind (P := P) (w := w) (base := base) T
  have c_worth := f_worth (P := P) (w := w) (base := base) T
  refine T.mkMt 72 160 154 (d := d_Heap_cell_of) (N := ["self", "hand", "word"]) (k := 4) rfl rfl rfl rfl rfl rfl sc_Heap_cell_of (fun _ _ _ _ _ _ us hl => match us, hl with | [_, _], _ => rfl) (fun vs H Q E h => ?len) (fun cdv A outer s H vs Q E hr h => ⟨_,
      (pss_cons (ps_set (i := 2) sc_Heap_cell_of.nd rfl (Or.inl rfl) (pe_mt (K := K) rfl (takes_of rfl rfl rfl rfl) (pv 0) c_Heap_held (hr.mono (by decide)) (pa_cons (pv 1) pa_nil)))
        (pss_cons (ps_if (pt_cmpR (op_neK (K := K) rfl hr.units) (pe_fn (takes_of rfl rfl rfl rfl) c_kind (hr.mono (by decide)) (by rfl) (pa_cons (pv 2) pa_nil)) pe_str (nomark _)) (pss_one (ps_raiseK (K := K) rfl rfl (takes_of rfl rfl rfl rfl) (T.says.fact 79 rfl) (T.glo 9) (by rfl))) pss_nil)
        (pss_one (ps_ret (pe_fn (takes_of rfl rfl rfl rfl) c_worth (hr.mono (by decide)) (by rfl) (pa_cons (pv 2) pa_nil)))))), ?rd⟩)
  case len => first | exact len_Heap_cell_of h | (repeat (first | (obtain ⟨rfl, _⟩ := h; rfl; done) | obtain ⟨_, h⟩ := h))
  case rd =>
    obtain ⟨G, S, T, v, rfl, I, th, h⟩ := h
    walk_at "w2"
    refine ⟨recv I.ob, G, S, T, v, rfl, I, th, ?_⟩
    cases e : placeOf T.hs.length v with
    | none =>
      rw [e] at h
      exact h
    | some i =>
      rw [e] at h
      obtain ⟨-, hi⟩ := placeOf_some e
      obtain ⟨w, ew⟩ := I.ro.ho.vw.get hi
      walk_at "w2"
      simp only [x_worth]
      dsimp only at h
      rw [ew] at h ⊢
      dsimp only at h ⊢
      cases w with
      | nothing => simp only [k_nn, k_pn, k_Nn, k_np, k_Np, k_pp, not_true_eq_false, not_false_eq_true, if_true, if_false, ite_true, ite_false, Wd.worth]; exact h
      | num n => simp only [k_nn, k_pn, k_Nn, k_np, k_Np, k_pp, not_true_eq_false, not_false_eq_true, if_true, if_false, ite_true, ite_false, Wd.worth]; exact h
      | place p => simp only [k_nn, k_pn, k_Nn, k_np, k_Np, k_pp, not_true_eq_false, not_false_eq_true, if_true, if_false, ite_true, ite_false, Wd.worth]; exact h
theorem f_Heap_get (T : Tx K mg) : Mt P w K mg base 7 "Heap" "get" ["self", "hand", "slot"] (sp_Heap_get K) := by
  have c_Heap_cell_of := f_Heap_cell_of (P := P) (w := w) (base := base) T
  have c_Memory_read := f_Memory_read (P := P) (w := w) (base := base) T
  have c_slot_place := f_slot_place (P := P) (w := w) (base := base) T
  refine T.mkMt 73 161 154 (d := d_Heap_get) (N := ["self", "hand", "slot", "at"]) (k := 6) rfl rfl rfl rfl rfl rfl sc_Heap_get (fun _ _ _ _ _ _ us hl => match us, hl with | [_, _, _], _ => rfl) (fun vs H Q E h => ?len) (fun cdv A outer s H vs Q E hr h => ⟨_,
      (pss_cons (ps_set (i := 3) sc_Heap_get.nd rfl (Or.inl rfl) (pe_mt (K := K) rfl (takes_of rfl rfl rfl rfl) (pv 0) c_Heap_cell_of (hr.mono (by decide)) (pa_cons (pv 1) pa_nil)))
        (pss_one (ps_ret (pe_mt (K := K) rfl (takes_of rfl rfl rfl rfl) (pe_fldC (T.cls 102) (T.noat 108) (pe_fldC (T.cls 154) (T.noat 165) (pv 0))) c_Memory_read (hr.mono (by decide)) (pa_cons (pe_fn (takes_of rfl rfl rfl rfl) c_slot_place (hr.mono (by decide)) (by rfl) (pa_cons (pe_fldC (T.cls 102) (T.noat 108) (pe_fldC (T.cls 154) (T.noat 165) (pv 0))) (pa_cons (pv 3) (pa_cons (pv 2) pa_nil)))) pa_nil))))), ?rd⟩)
  case len => first | exact len_Heap_get h | (repeat (first | (obtain ⟨rfl, _⟩ := h; rfl; done) | obtain ⟨_, h⟩ := h))
  case rd =>
    obtain ⟨G, S, T, v, z, rfl, I, ft, th, tz, h⟩ := h
    unfold gtW at h
    walk_at "w2"
    refine ⟨recv I.ob, G, S, T, v, rfl, I, th, ?_⟩
    cases e : placeOf T.hs.length v with
    | none =>
      rw [e] at h
      exact h
    | some i =>
      rw [e] at h
      obtain ⟨-, hi⟩ := placeOf_some e
      obtain ⟨w, ew⟩ := I.ro.ho.vw.get hi
      dsimp only at h ⊢
      rw [ew] at h ⊢
      cases w with
      | nothing => exact h
      | num n => exact h
      | place p =>
        dsimp only at h ⊢
        walk_at "w2"
        refine ⟨_, fldIs I.ob, _, fldIs I.ar.ob, recv I.ar.me.ob, _, fldIs I.ob, _, fldIs I.ar.ob, G.A.m, G.A.mx, G.A.l, _, _, z, rfl, I.ar.me, I.ar.vw, .inl ⟨_, rfl⟩, tz, ?_⟩
        cases eh : headW S.ws (.int p) with
        | noPlace => rw [eh] at h; exact h
        | noCell => rw [eh] at h; exact h
        | ok a k =>
          rw [eh] at h
          obtain ⟨-, ha, hk⟩ := head_ok eh
          dsimp only at h ⊢
          cases es : placeOf (k / 4) z with
          | none => rw [es] at h; exact h
          | some s =>
            rw [es] at h
            obtain ⟨-, hs⟩ := placeOf_some es
            have fit := ft (a + 1 + s) a (by
              unfold gtW
              rw [e]
              dsimp only
              rw [ew]
              dsimp only
              rw [eh]
              dsimp only
              rw [es])
            dsimp only at h ⊢
            walk_at "w2"
            refine ⟨G.A.m, G.A.mx, G.A.l, _, _, rfl, I.ar.me, .inl ⟨_, rfl⟩, ?_⟩
            rw [placeOf_int, if_pos ⟨by omega, by omega⟩, Int.toNat_natCast]
            exact h
theorem f_Heap_is_young (T : Tx K mg) : Mt P w K mg base 4 "Heap" "is_young" ["self", "word"] (sp_Heap_is_young K) := by
  have c_Areas_area_of := f_Areas_area_of (P := P) (w := w) (base := base) T
  have c_worth := f_worth (P := P) (w := w) (base := base) T
  have c_kind := f_kind (P := P) (w := w) (base := base) T
  refine T.mkMt 75 163 154 (d := d_Heap_is_young) (N := ["self", "word"]) (k := 3) rfl rfl rfl rfl rfl rfl sc_Heap_is_young (fun _ _ _ _ _ _ us hl => match us, hl with | [_, _], _ => rfl) (fun vs H Q E h => ?len) (fun cdv A outer s H vs Q E hr h => ⟨_,
      (pss_one (ps_ret (pe_and (pe_cmpR (op_eqK (K := K) rfl hr.units) (pe_fn (takes_of rfl rfl rfl rfl) c_kind (hr.mono (by decide)) (by rfl) (pa_cons (pv 1) pa_nil)) pe_str (nomark _)) (pe_one (pe_cmpR (op_eqK (K := K) rfl hr.units) (pe_mt (K := K) rfl (takes_of rfl rfl rfl rfl) (pe_fldC (T.cls 154) (T.noat 165) (pv 0)) c_Areas_area_of (hr.mono (by decide)) (pa_cons (pe_fn (takes_of rfl rfl rfl rfl) c_worth (hr.mono (by decide)) (by rfl) (pa_cons (pv 1) pa_nil)) pa_nil)) pe_str (nomark _)))))), ?rd⟩)
  case len => first | exact len_Heap_is_young h | (repeat (first | (obtain ⟨rfl, _⟩ := h; rfl; done) | obtain ⟨_, h⟩ := h))
  case rd =>
    obtain ⟨G, S, T, n, rfl, I, hn, q⟩ := h
    obtain ⟨w, ew⟩ := Option.isSome_iff_exists.mp hn
    unfold yngW at q
    walk_at "w2"
    simp only [x_worth]
    rw [ew] at q ⊢
    dsimp only at q ⊢
    cases w with
    | nothing => simp only [k_nn, k_pn, k_Nn, k_np, k_Np, k_pp, not_true_eq_false, not_false_eq_true, if_true, if_false, ite_true, ite_false, Wd.worth]; exact q
    | num m => simp only [k_nn, k_pn, k_Nn, k_np, k_Np, k_pp, not_true_eq_false, not_false_eq_true, if_true, if_false, ite_true, ite_false, Wd.worth]; exact q
    | place p =>
      simp only [k_nn, k_pn, k_Nn, k_np, k_Np, k_pp, not_true_eq_false, not_false_eq_true, if_true, if_false, ite_true, ite_false, Wd.worth]
      dsimp only at q ⊢
      refine ⟨_, fldIs I.ob, recv I.ar.ob, G.A, S, p, rfl, I.ar, ?_⟩
      rcases areaW_is (S := S) (n := p) with e | e | e
      all_goals
        rw [e] at q ⊢
        walk_at "w2"
        first | exact q | (rw [decide_eq_true rfl] at q; exact q) | (rw [decide_eq_false (by decide +kernel)] at q ⊢; exact q) | (rw [decide_eq_false (by intro z; cases z)] at q; exact q)
theorem f_Heap_make (T : Tx K mg) : Mt P w K mg base 8 "Heap" "make" ["self", "hand", "slots"] (sp_Heap_make K) := by
  have c_Heap_held := f_Heap_held (P := P) (w := w) (base := base) T
  have c_need_slots := f_need_slots (P := P) (w := w) (base := base) T
  have c_Areas_lay_young := f_Areas_lay_young (P := P) (w := w) (base := base) T
  have c_Areas_lay_old := f_Areas_lay_old (P := P) (w := w) (base := base) T
  have c_Heap_hold := f_Heap_hold (P := P) (w := w) (base := base) T
  have c_place_word := f_place_word (P := P) (w := w) (base := base) T
  refine T.mkMt 68 156 154 (d := d_Heap_make) (N := ["self", "hand", "slots", "young", "at"]) (k := 7) rfl rfl rfl rfl rfl rfl sc_Heap_make (fun _ _ _ _ _ _ us hl => match us, hl with | [_, _, _], _ => rfl) (fun vs H Q E h => ?len) (fun cdv A outer s H vs Q E hr h => ⟨_,
      (pss_cons (ps_expr (pe_mt (K := K) rfl (takes_of rfl rfl rfl rfl) (pv 0) c_Heap_held (hr.mono (by decide)) (pa_cons (pv 1) pa_nil)))
        (pss_cons (ps_expr (pe_fn (takes_of rfl rfl rfl rfl) c_need_slots (hr.mono (by decide)) (by rfl) (pa_cons (pv 2) pa_nil)))
        (pss_cons (ps_set (i := 3) sc_Heap_make.nd rfl (Or.inl rfl) (pe_fldC (T.cls 102) (T.noat 110) (pe_fldC (T.cls 154) (T.noat 165) (pv 0))))
        (pss_cons (ps_if (pt_cmpR op_le (pe_op op_gAdd (pv 2) pe_int) (pe_op op_sub (pe_fldC (T.cls 90) (T.noat 100) (pv 3)) (pe_fldC (T.cls 90) (T.noat 99) (pv 3))) (nomark _)) (pss_one (ps_set (i := 4) sc_Heap_make.nd rfl (Or.inl rfl) (pe_mt (K := K) rfl (takes_of rfl rfl rfl rfl) (pe_fldC (T.cls 154) (T.noat 165) (pv 0)) c_Areas_lay_young (hr.mono (by decide)) (pa_cons (pv 2) pa_nil)))) (pss_one (ps_set (i := 4) sc_Heap_make.nd rfl (Or.inl rfl) (pe_mt (K := K) rfl (takes_of rfl rfl rfl rfl) (pe_fldC (T.cls 154) (T.noat 165) (pv 0)) c_Areas_lay_old (hr.mono (by decide)) (pa_cons (pv 2) pa_nil)))))
        (pss_cons (ps_expr (pe_mt (K := K) rfl (takes_of rfl rfl rfl rfl) (pv 0) c_Heap_hold (hr.mono (by decide)) (pa_cons (pv 1) (pa_cons (pe_fn (takes_of rfl rfl rfl rfl) c_place_word (hr.mono (by decide)) (by rfl) (pa_cons (pv 4) pa_nil)) pa_nil))))
        (pss_one (ps_ret (pv 4)))))))), ?rd⟩)
  case len => first | exact len_Heap_make h | (repeat (first | (obtain ⟨rfl, _⟩ := h; rfl; done) | obtain ⟨_, h⟩ := h))
  case rd =>
    obtain ⟨G, S, T, v, z, rfl, I, th, tz, h⟩ := h
    unfold mkW at h
    walk_at "w2"
    refine ⟨recv I.ob, G, S, T, v, rfl, I, th, ?_⟩
    cases e : placeOf T.hs.length v with
    | none =>
      rw [e] at h
      exact h
    | some i =>
      rw [e] at h
      obtain ⟨rfl, hi⟩ := placeOf_some e
      dsimp only at h ⊢
      walk_at "w2"
      refine ⟨z, rfl, tz, ?_⟩
      cases es : slotsW z with
      | none => rw [es] at h; exact h
      | some s =>
        rw [es] at h
        obtain ⟨rfl, s8⟩ := slotsW_some es
        have hf := I.ar.half S.fl
        dsimp only at h ⊢
        walk_at "w2"
        refine ⟨_, fldIs I.ob, _, fldIs I.ar.ob, _, fldIs hf, _, fldIs hf, ?_⟩
        walk_at "w2"
        have hln := I.ar.ln
        have hsz := I.ar.me.sz
        have hlo := I.ar.lo
        have hlt := I.ar.lt S.fl
        have hbk : S.b S.fl + S.k ≤ S.n + 2 * S.k := by unfold ArS.b; split <;> omega
        have tl : ∀ old, topA S old ≤ 9999 := fun old => by
          cases old
          · show S.t S.fl ≤ 9999
            omega
          · show S.ot ≤ 9999
            omega
        have goal : ∀ old, inOld S s = old → ∀ H', ArO K H' G.A (laidS S old s) → (∀ b o, b ≠ G.A.l → b ≠ G.A.o → b ≠ G.A.p → b ≠ G.A.q → H b = some o → H' b = some o) →
            s + 1 ≤ endA S old - topA S old → Recv (He.ga K "Heap") "hold" (.ref G.g) H' ∧ sp_place_word K [.int (topA S old : Int)] H' (fun x H1 => sp_Heap_hold K [.ref G.g, .int (i : Int), x] H1 (fun _ H1 => Q (.int (topA S old : Int)) H1) (fun c d H2 => E c d H2)) (fun c d H2 => E c d H2) := fun old eo H' I' k c => by
          rw [eo, if_pos c] at h
          dsimp only at h
          rw [eo] at h
          have J := I.arS I' k
          have t1 := tl old
          refine ⟨recv J.ob, ?_⟩
          rw [x_place_word, if_pos ⟨by omega, by omega⟩]
          refine ⟨G, _, T, _, _, rfl, J, .inl ⟨_, rfl⟩, .inl ⟨_, rfl⟩, ?_⟩
          have hn : (wordOf (2 * (topA S old : Int) + 1)).isSome = true := by rw [word_place (by omega) (by omega)]; rfl
          rw [placeOf_int, if_pos ⟨by omega, by omega⟩, Int.toNat_natCast, wordV_int, if_pos hn]
          exact h _ (J.hput hn) fun b o h1 h2 h3 h4 h5 g => (upd_ne h5).trans (k b o h1 h2 h3 h4 g)
        have ek : (((S.b S.fl + S.k : Nat) : Int) - (S.b S.fl : Int)) = (S.k : Int) := by omega
        rw [ek]
        split
        · have eo : inOld S s = false := by unfold inOld; rw [decide_eq_true (by omega)]; rfl
          refine ⟨_, fldIs I.ob, recv I.ar.ob, G.A, S, _, rfl, I.ar, .inl ⟨_, rfl⟩, ?_⟩
          unfold laidW
          rw [es]
          dsimp only
          by_cases c : s + 1 ≤ endA S false - topA S false
          · rw [if_pos c]
            intro H' I' k
            refine goal false eo H' I' (fun b o h1 h2 h3 h4 g => k b o h1 ?_ g) c
            unfold ArA.y
            split <;> assumption
          · rw [if_neg c]
            rw [eo, if_neg c] at h
            exact h
        · have eo : inOld S s = true := by unfold inOld; rw [decide_eq_false (by omega)]; rfl
          refine ⟨_, fldIs I.ob, recv I.ar.ob, G.A, S, _, rfl, I.ar, .inl ⟨_, rfl⟩, ?_⟩
          unfold laidW
          rw [es]
          dsimp only
          by_cases c : s + 1 ≤ endA S true - topA S true
          · rw [if_pos c]
            intro H' I' k
            exact goal true eo H' I' (fun b o h1 h2 h3 h4 g => k b o h1 h2 g) c
          · rw [if_neg c]
            rw [eo, if_neg c] at h
            exact h
theorem f_Heap_put (T : Tx K mg) : Mt P w K mg base 7 "Heap" "put" ["self", "hand", "slot", "word"] (sp_Heap_put K) := by
  have c_Heap_cell_of := f_Heap_cell_of (P := P) (w := w) (base := base) T
  have c_slot_place := f_slot_place (P := P) (w := w) (base := base) T
  have c_Memory_write := f_Memory_write (P := P) (w := w) (base := base) T
  have c_Heap_is_young := f_Heap_is_young (P := P) (w := w) (base := base) T
  have c_Areas_area_of := f_Areas_area_of (P := P) (w := w) (base := base) T
  have c_Book_write := f_Book_write (P := P) (w := w) (base := base) T
  have c_Book_rub := f_Book_rub (P := P) (w := w) (base := base) T
  refine T.mkMt 74 162 154 (d := d_Heap_put) (N := ["self", "hand", "slot", "word", "at", "place"]) (k := 6) rfl rfl rfl rfl rfl rfl sc_Heap_put (fun _ _ _ _ _ _ us hl => match us, hl with | [_, _, _, _], _ => rfl) (fun vs H Q E h => ?len) (fun cdv A outer s H vs Q E hr h => ⟨_,
      (pss_cons (ps_set (i := 4) sc_Heap_put.nd rfl (Or.inl rfl) (pe_mt (K := K) rfl (takes_of rfl rfl rfl rfl) (pv 0) c_Heap_cell_of (hr.mono (by decide)) (pa_cons (pv 1) pa_nil)))
        (pss_cons (ps_set (i := 5) sc_Heap_put.nd rfl (Or.inl rfl) (pe_fn (takes_of rfl rfl rfl rfl) c_slot_place (hr.mono (by decide)) (by rfl) (pa_cons (pe_fldC (T.cls 102) (T.noat 108) (pe_fldC (T.cls 154) (T.noat 165) (pv 0))) (pa_cons (pv 4) (pa_cons (pv 2) pa_nil)))))
        (pss_cons (ps_expr (pe_mt (K := K) rfl (takes_of rfl rfl rfl rfl) (pe_fldC (T.cls 102) (T.noat 108) (pe_fldC (T.cls 154) (T.noat 165) (pv 0))) c_Memory_write (hr.mono (by decide)) (pa_cons (pv 5) (pa_cons (pv 3) pa_nil))))
        (pss_one (ps_if (PW.pt (pw_and (pt_cmpR (op_eqK (K := K) rfl hr.units) (pe_mt (K := K) rfl (takes_of rfl rfl rfl rfl) (pe_fldC (T.cls 154) (T.noat 165) (pv 0)) c_Areas_area_of (hr.mono (by decide)) (pa_cons (pv 4) pa_nil)) pe_str (nomark _)) (pw_and1 (pt_val (pe_mt (K := K) rfl (takes_of rfl rfl rfl rfl) (pv 0) c_Heap_is_young (hr.mono (by decide)) (pa_cons (pv 3) pa_nil)))))) (pss_one (ps_expr (pe_mt (K := K) rfl (takes_of rfl rfl rfl rfl) (pe_fldC (T.cls 147) (T.noat 151) (pe_fldC (T.cls 154) (T.noat 164) (pv 0))) c_Book_write (hr.mono (by decide)) (pa_cons (pv 5) pa_nil)))) (pss_one (ps_expr (pe_mt (K := K) rfl (takes_of rfl rfl rfl rfl) (pe_fldC (T.cls 147) (T.noat 151) (pe_fldC (T.cls 154) (T.noat 164) (pv 0))) c_Book_rub (hr.mono (by decide)) (pa_cons (pv 5) pa_nil))))))))), ?rd⟩)
  case len => first | exact len_Heap_put h | (repeat (first | (obtain ⟨rfl, _⟩ := h; rfl; done) | obtain ⟨_, h⟩ := h))
  case rd =>
    obtain ⟨G, S, T, v, z, x, rfl, I, ft, hbs, th, tz, tx, h⟩ := h
    unfold gtW at h
    walk_at "w2"
    refine ⟨recv I.ob, G, S, T, v, rfl, I, th, ?_⟩
    cases e : placeOf T.hs.length v with
    | none =>
      rw [e] at h
      exact h
    | some i =>
      rw [e] at h
      obtain ⟨-, hi⟩ := placeOf_some e
      obtain ⟨w, ew⟩ := I.ro.ho.vw.get hi
      dsimp only at h ⊢
      rw [ew] at h ⊢
      cases w with
      | nothing => exact h
      | num n => exact h
      | place p =>
        dsimp only at h ⊢
        walk_at "w2"
        refine ⟨_, fldIs I.ob, _, fldIs I.ar.ob, G.A.m, G.A.mx, G.A.l, _, _, z, rfl, I.ar.me, I.ar.vw, .inl ⟨_, rfl⟩, tz, ?_⟩
        cases eh : headW S.ws (.int p) with
        | noPlace => rw [eh] at h; exact h
        | noCell => rw [eh] at h; exact h
        | ok a k =>
          rw [eh] at h
          obtain ⟨ep, ha, hk⟩ := head_ok eh
          cases ep
          dsimp only at h ⊢
          cases es : placeOf (k / 4) z with
          | none => rw [es] at h; exact h
          | some s =>
            rw [es] at h
            obtain ⟨-, hs⟩ := placeOf_some es
            have fit := ft (a + 1 + s) a (by
              unfold gtW
              rw [e]
              dsimp only
              rw [ew]
              dsimp only
              rw [eh]
              dsimp only
              rw [es])
            have hsz := I.ar.me.sz
            dsimp only at h ⊢
            walk_at "w2"
            refine ⟨_, fldIs I.ob, _, fldIs I.ar.ob, recv I.ar.me.ob, G.A.m, G.A.mx, G.A.l, _, _, x, rfl, I.ar.me, .inl ⟨_, rfl⟩, tx, ?_⟩
            rw [placeOf_int, if_pos ⟨by omega, by omega⟩, Int.toNat_natCast]
            dsimp only
            cases ex : wordV x with
            | none => rw [ex] at h; exact h
            | some n =>
              rw [ex] at h
              obtain ⟨rfl, w2, ew2⟩ := wordV_some ex
              have hn : (wordOf n).isSome = true := by rw [ew2]; rfl
              have J := I.wput (ws := S.ws.set (a + 1 + s) n) (I.ar.vw.set hn) (List.length_set ..)
              have k1 : ∀ b o, b ≠ G.A.l → H b = some o → upd H G.A.l (.lst ((S.ws.set (a + 1 + s) n).map V.int)) b = some o := fun b o hb g => (upd_ne hb).trans g
              dsimp only at h ⊢
              generalize upd H G.A.l (.lst ((S.ws.set (a + 1 + s) n).map V.int)) = H1 at J k1 ⊢
              walk_at "w2"
              refine ⟨_, fldIs J.ob, recv J.ar.ob, G.A, _, _, rfl, J.ar, ?_⟩
              have ea : areaW { S with ws := S.ws.set (a + 1 + s) n } (a : Int) = areaW S a := rfl
              have ey : yngW { S with ws := S.ws.set (a + 1 + s) n } n = yngW S n := rfl
              rw [ea]
              unfold bookW at h
              have pw : placeW (.int ((a + 1 + s : Nat) : Int)) = some ((a + 1 + s : Nat) : Int) := by rw [placeW_int, if_pos ⟨by omega, by omega⟩]
              have no : ¬ (areaW S a = .str "old" ∧ yngW S n = true) → (∃ v, FldIs (He.ga K "Heap") "roots" (.ref G.g) H1 v ∧ ∃ v_1, FldIs (He.ga K "Roots") "book" v H1 v_1 ∧ Recv (He.ga K "Book") "rub" v_1 H1 ∧ sp_Book_rub K [v_1, .int ((a + 1 + s : Nat) : Int)] H1 (fun _ H1 => Q .non H1) (fun c d H2 => E c d H2)) := fun c => by
                rw [if_neg c] at h
                refine ⟨_, fldIs J.ob, _, fldIs J.ro.ob, recv J.ro.bo.ob, G.R.b, G.R.bx, T.bd, _, _, rfl, J.ro.bo, .inl ⟨_, rfl⟩, ?_⟩
                rw [pw]
                refine ⟨h _ (J.bput (nd_delP J.ro.bo.nd)) fun b o h1 h2 g => (upd_ne h2).trans (k1 b o h1 g), fun e => ?_⟩
                rw [show delP T.bs ((a + 1 + s : Nat) : Int) = T.bs from e] at h
                exact h _ J fun b o h1 _ g => k1 b o h1 g
              rcases areaW_is (S := S) (n := a) with er | er | er
              · rw [er] at no h ⊢
                walk_at "w2"
                refine ⟨recv J.ob, G, _, T, n, rfl, J, hn, ?_⟩
                rw [ey]
                cases eyn : yngW S n with
                | true =>
                  walk_at "w2"
                  rw [eyn, if_pos ⟨rfl, rfl⟩] at h
                  refine ⟨_, fldIs J.ob, _, fldIs J.ro.ob, recv J.ro.bo.ob, G.R.b, G.R.bx, T.bd, _, _, rfl, J.ro.bo, hbs, .inl ⟨_, rfl⟩, ?_⟩
                  rw [pw]
                  exact h _ (J.bput (nd_addP J.ro.bo.nd)) fun b o h1 h2 g => (upd_ne h2).trans (k1 b o h1 g)
                | false =>
                  walk_at "w2"
                  exact no fun z => by rw [eyn] at z; cases z.2
              · rw [er] at no ⊢
                walk_at "w2"
                exact no fun z => by cases z.1
              · rw [er] at no ⊢
                walk_at "w2"
                exact no fun z => by cases z.1
end

/-! ## cells of a law's own: by places, rows of words -/
structure CeL where
  (p : Nat) (r : Addr) (ws : List Int)
def kvsOf (f : Nat → Int) (C : List CeL) : List (Key × V) := C.map fun c => (.inl (f c.p), .ref c.r)
theorem kvs_none {f : Nat → Int} {C : List CeL} {n : Int} (h : ∀ c ∈ C, f c.p ≠ n) : valV (kvsOf f C) (.inl n : Key) = none := by
  induction C with
  | nil => rfl
  | cons c r ih =>
    have e2 : ¬ ((.inl (f c.p) : Key) = .inl n) := fun z => h c (List.mem_cons_self) (Sum.inl.inj z)
    exact (valV_neg (p := ((.inl (f c.p) : Key), V.ref c.r)) (r := kvsOf f r) e2).trans (ih fun c m => h c (List.mem_cons_of_mem _ m))
theorem kvs_some {f : Nat → Int} {C : List CeL} {c : CeL} (nd : C.Pairwise fun a b => f a.p ≠ f b.p) (h : c ∈ C) : valV (kvsOf f C) (.inl (f c.p) : Key) = some (.ref c.r) := by
  induction C with
  | nil => exact (List.not_mem_nil h).elim
  | cons a r ih =>
    obtain ⟨n1, n2⟩ := List.pairwise_cons.mp nd
    rcases List.mem_cons.mp h with rfl | h
    · exact valV_pos rfl
    · have e2 : ¬ ((.inl (f a.p) : Key) = .inl (f c.p)) := fun z => n1 c h (Sum.inl.inj z)
      exact (valV_neg (p := ((.inl (f a.p) : Key), V.ref a.r)) (r := kvsOf f r) e2).trans (ih n2 h)
theorem kvs_put {f : Nat → Int} {C : List CeL} {c : CeL} (h : ∀ a ∈ C, f a.p ≠ f c.p) : putK (kvsOf f C) (.inl (f c.p) : Key) (.ref c.r) = kvsOf f (C ++ [c]) := by
  unfold putK
  rw [valV_any, kvs_none h]
  show kvsOf f C ++ [(.inl (f c.p), .ref c.r)] = _
  unfold kvsOf
  rw [List.map_append]
  rfl
/-- which cells are laid, where their rows are, what they hold -/
structure CellsO (f : Nat → Int) (H : Hp) (S : ArS) (d : Addr) (C : List CeL) : Prop where
  dd : H d = some (.dK (kvsOf f C))
  rw_ : ∀ c ∈ C, H c.r = some (.lst (c.ws.map V.int))
  hd : ∀ c ∈ C, ∃ a, a ≤ 2 ∧ headAt (S.ws.getD c.p 0) = some (4 * c.ws.length + a)
  sl : ∀ c ∈ C, ∀ j, j < c.ws.length → S.ws.getD (c.p + 1 + j) 0 = c.ws.getD j 0
  ar : ∀ c ∈ C, c.p + c.ws.length < S.ot ∨ (S.b S.fl ≤ c.p ∧ c.p + c.ws.length < S.t S.fl)
  dj : C.Pairwise fun a b => a.p + a.ws.length < b.p ∨ b.p + b.ws.length < a.p
  rd : C.Pairwise fun a b => a.r ≠ b.r
theorem CellsO.same {f H H' S d C} (h : CellsO f H S d C) (s : Same H H') : CellsO f H' S d C := { h with dd := s _ _ h.dd, rw_ := fun c m => s _ _ (h.rw_ c m) }
theorem CellsO.keys {f H S d C} (h : CellsO f H S d C) (inj : ∀ a b, f a = f b → a = b) : C.Pairwise fun a b => f a.p ≠ f b.p := h.dj.imp fun {a b} q e => by
  have := inj _ _ e
  omega
/-- another heap, in which dict and rows are as they were -/
theorem CellsO.keep {f H H' S d C} (h : CellsO f H S d C) (k : ∀ b o, (b = d ∨ ∃ c ∈ C, b = c.r) → H b = some o → H' b = some o) : CellsO f H' S d C := { h with dd := k _ _ (.inl rfl) h.dd, rw_ := fun c m => k _ _ (.inr ⟨c, m, rfl⟩) (h.rw_ c m) }
theorem CellsO.lt {f H S d C} (h : CellsO f H S d C) (e : S.ws.length = S.n + 2 * S.k) (lo : S.ot ≤ S.n) (l1 : S.t S.fl ≤ S.b S.fl + S.k) : ∀ c ∈ C, c.p + c.ws.length < S.ws.length := fun c m => by
  have hb : S.b S.fl + S.k ≤ S.n + 2 * S.k := by unfold ArS.b; split <;> omega
  rcases h.ar c m with q | q <;> omega
theorem layT_high {ws : List Int} {i s t j : Nat} (h : i + t < j) : (layT ws i s t).getD j 0 = ws.getD j 0 := by
  induction t with
  | zero =>
    show (ws.set i (8 * (s : Int))).getD j 0 = _
    rw [List.getD_eq_getElem?_getD, List.getElem?_set_ne (by omega), ← List.getD_eq_getElem?_getD]
  | succ t ih =>
    rw [layT_succ, List.getD_eq_getElem?_getD, List.getElem?_set_ne (by omega), ← List.getD_eq_getElem?_getD, ih (by omega)]
theorem layT_low' {ws : List Int} {i s t j : Nat} (h : j < i) : (layT ws i s t).getD j 0 = ws.getD j 0 := by
  induction t with
  | zero =>
    show (ws.set i (8 * (s : Int))).getD j 0 = _
    rw [List.getD_eq_getElem?_getD, List.getElem?_set_ne (by omega), ← List.getD_eq_getElem?_getD]
  | succ t ih =>
    rw [layT_succ, List.getD_eq_getElem?_getD, List.getElem?_set_ne (by omega), ← List.getD_eq_getElem?_getD, ih]
theorem laidS_off {S : ArS} {old : Bool} {s j : Nat} (h : j < topA S old ∨ topA S old + s < j) : (laidS S old s).ws.getD j 0 = S.ws.getD j 0 := by
  cases old
  · show (layT S.ws (S.t S.fl) s s).getD j 0 = _
    have h : j < S.t S.fl ∨ S.t S.fl + s < j := h
    rcases h with h | h
    · exact layT_low' h
    · exact layT_high h
  · show ((layT S.ws S.ot s s).set S.ot _).getD j 0 = _
    have h : j < S.ot ∨ S.ot + s < j := h
    rw [List.getD_eq_getElem?_getD, List.getElem?_set_ne (by omega), ← List.getD_eq_getElem?_getD]
    rcases h with h | h
    · exact layT_low' h
    · exact layT_high h
theorem laidS_ot {S : ArS} {old : Bool} {s : Nat} : (laidS S old s).ot = if old then S.ot + (s + 1) else S.ot := by
  cases old
  · show (S.put S.fl _).ot = _
    unfold ArS.put
    cases S.fl <;> rfl
  · rfl
theorem laidS_same {S : ArS} {old : Bool} {s : Nat} : (laidS S old s).fl = S.fl ∧ (laidS S old s).n = S.n ∧ (laidS S old s).k = S.k ∧ ∀ f, (laidS S old s).b f = S.b f := by
  cases old
  · show (S.put S.fl _).fl = _ ∧ (S.put S.fl _).n = _ ∧ (S.put S.fl _).k = _ ∧ ∀ f, (S.put S.fl _).b f = S.b f
    unfold ArS.put ArS.b
    cases S.fl <;> exact ⟨rfl, rfl, rfl, fun f => rfl⟩
  · exact ⟨rfl, rfl, rfl, fun f => rfl⟩
theorem laidS_t {S : ArS} {old : Bool} {s : Nat} : (laidS S old s).t S.fl = if old then S.t S.fl else S.t S.fl + (s + 1) := by
  cases old
  · show (S.put S.fl _).t S.fl = _
    unfold ArS.put ArS.t
    cases S.fl <;> rfl
  · rfl
theorem laidS_t' {S : ArS} {old : Bool} {s : Nat} : (laidS S old s).t (!S.fl) = S.t (!S.fl) := by
  cases old
  · show (S.put S.fl _).t (!S.fl) = _
    unfold ArS.put ArS.t
    cases S.fl <;> rfl
  · rfl
theorem CellsO.fresh {f H S d C s old} (h : CellsO f H S d C) (lo : S.ot ≤ S.n) (lbt : S.b S.fl ≤ S.t S.fl) (fit : topA S old + (s + 1) ≤ endA S old) : ∀ c ∈ C, c.p + c.ws.length < topA S old ∨ topA S old + s < c.p := fun c m => by
  have nb : S.n ≤ S.b S.fl := by unfold ArS.b; split <;> omega
  have lb : S.n ≤ S.b S.fl := nb
  cases old
  · show c.p + c.ws.length < S.t S.fl ∨ _
    have fit : S.t S.fl + (s + 1) ≤ S.b S.fl + S.k := fit
    rcases h.ar c m with q | q <;> omega
  · have : S.ot + (s + 1) ≤ S.n := fit
    show c.p + c.ws.length < S.ot ∨ S.ot + s < c.p
    rcases h.ar c m with q | q <;> omega
/-- a cell more -/
theorem CellsO.lay {f H H' S d C s old r} (h : CellsO f H S d C) (s8 : s ≤ 8) (ln : S.ws.length = S.n + 2 * S.k) (lo : S.ot ≤ S.n) (lb : S.b S.fl ≤ S.t S.fl) (fit : topA S old + (s + 1) ≤ endA S old)
    (hd : H' d = some (.dK (kvsOf f (C ++ [⟨topA S old, r, List.replicate s (-1)⟩])))) (hr : H' r = some (.lst ((List.replicate s (-1 : Int)).map V.int))) (k : ∀ c ∈ C, H' c.r = H c.r) (nr : ∀ c ∈ C, c.r ≠ r) :
    CellsO f H' (laidS S old s) d (C ++ [⟨topA S old, r, List.replicate s (-1)⟩]) := by
  have nb : S.n ≤ S.b S.fl := by unfold ArS.b; split <;> omega
  have hbk : S.b S.fl + S.k ≤ S.n + 2 * S.k := by unfold ArS.b; split <;> omega
  have hl : topA S old + s < S.ws.length := by
    cases old
    · have : S.t S.fl + (s + 1) ≤ S.b S.fl + S.k := fit
      show S.t S.fl + s < _
      omega
    · have : S.ot + (s + 1) ≤ S.n := fit
      show S.ot + s < _
      omega
  have off : ∀ c ∈ C, c.p + c.ws.length < topA S old ∨ topA S old + s < c.p := fun c m => by
    cases old
    · show c.p + c.ws.length < S.t S.fl ∨ _
      rcases h.ar c m with q | q <;> omega
    · have : S.ot + (s + 1) ≤ S.n := fit
      show c.p + c.ws.length < S.ot ∨ S.ot + s < c.p
      rcases h.ar c m with q | q <;> omega
  obtain ⟨e1, e2, e3, e4⟩ := laidS_same (S := S) (old := old) (s := s)
  have rl : (List.replicate s (-1 : Int)).length = s := List.length_replicate
  refine ⟨hd, fun c m => ?_, fun c m => ?_, fun c m j hj => ?_, fun c m => ?_, ?_, ?_⟩
  · rcases List.mem_append.mp m with m | m
    · rw [k c m]
      exact h.rw_ c m
    · rw [List.mem_singleton.mp m]
      exact hr
  · rcases List.mem_append.mp m with m | m
    · rw [laidS_off (by rcases off c m with q | q <;> omega)]
      exact h.hd c m
    · rw [List.mem_singleton.mp m]
      refine ⟨if old then 2 else 0, by split <;> omega, ?_⟩
      rw [laidS_head s8 hl]
      show _ = some (4 * (List.replicate s (-1 : Int)).length + _)
      rw [rl]
  · rcases List.mem_append.mp m with m | m
    · rw [laidS_off (by rcases off c m with q | q <;> omega)]
      exact h.sl c m j hj
    · rw [List.mem_singleton.mp m] at hj ⊢
      have hj : j < s := by rw [← rl]; exact hj
      rw [laidS_slot hj hl]
      show _ = (List.replicate s (-1 : Int)).getD j 0
      rw [List.getD_eq_getElem?_getD, List.getElem?_replicate, if_pos hj]
      rfl
  · rw [e1, e4, laidS_ot, laidS_t]
    rcases List.mem_append.mp m with m | m
    · rcases h.ar c m with q | q
      · refine .inl ?_
        split <;> omega
      · refine .inr ⟨q.1, ?_⟩
        split <;> omega
    · rw [List.mem_singleton.mp m]
      show topA S old + (List.replicate s (-1 : Int)).length < _ ∨ S.b S.fl ≤ topA S old ∧ topA S old + (List.replicate s (-1 : Int)).length < _
      rw [rl]
      cases old
      · refine .inr ⟨lb, ?_⟩
        show S.t S.fl + s < S.t S.fl + (s + 1)
        omega
      · refine .inl ?_
        show S.ot + s < S.ot + (s + 1)
        omega
  · refine List.pairwise_append.mpr ⟨h.dj, List.pairwise_singleton _ _, fun a ha b hb => ?_⟩
    rw [List.mem_singleton.mp hb]
    show _ ∨ topA S old + (List.replicate s (-1 : Int)).length < _
    rw [rl]
    exact off a ha
  · refine List.pairwise_append.mpr ⟨h.rd, List.pairwise_singleton _ _, fun a ha b hb => ?_⟩
    rw [List.mem_singleton.mp hb]
    exact nr a ha
theorem pair_mem {α : Type} {R : α → α → Prop} (sy : ∀ a b, R a b → R b a) : ∀ {C : List α}, C.Pairwise R → ∀ {a b : α}, a ∈ C → b ∈ C → a ≠ b → R a b
  | [], _, _, _, h, _, _ => (List.not_mem_nil h).elim
  | x :: r, p, a, b, ha, hb, ne => by
    obtain ⟨p1, p2⟩ := List.pairwise_cons.mp p
    rcases List.mem_cons.mp ha with ea | ha'
    · rcases List.mem_cons.mp hb with eb | hb'
      · exact absurd (ea.trans eb.symm) ne
      · rw [ea]
        exact p1 b hb'
    · rcases List.mem_cons.mp hb with eb | hb'
      · rw [eb]
        exact sy _ _ (p1 a ha')
      · exact pair_mem sy p2 ha' hb' ne
theorem CellsO.apart {f H S d C} (h : CellsO f H S d C) {a b : CeL} (ha : a ∈ C) (hb : b ∈ C) (ne : a ≠ b) : (a.p + a.ws.length < b.p ∨ b.p + b.ws.length < a.p) ∧ a.r ≠ b.r :=
  ⟨pair_mem (fun _ _ q => q.symm) h.dj ha hb ne, pair_mem (fun _ _ q => q.symm) h.rd ha hb ne⟩
theorem CellsO.same_p {f H S d C} (h : CellsO f H S d C) {a b : CeL} (ha : a ∈ C) (hb : b ∈ C) (e : a.p = b.p) : a = b := by
  by_cases e2 : a = b
  · exact e2
  · have := (h.apart ha hb e2).1
    omega
/-- one slot of a cell is written -/
def setC (C : List CeL) (p j : Nat) (n : Int) : List CeL := C.map fun c => if c.p = p then { c with ws := c.ws.set j n } else c
theorem setC_kvs {f : Nat → Int} {C : List CeL} {p j : Nat} {n : Int} : kvsOf f (setC C p j n) = kvsOf f C := by
  unfold kvsOf setC
  rw [List.map_map]
  congr 1
  funext c
  show ((.inl (f (if c.p = p then _ else c).p), .ref (if c.p = p then _ else c).r) : Key × V) = _
  split <;> rfl
theorem CellsO.put {f H H' S d C} {c : CeL} {j : Nat} {n : Int} (h : CellsO f H S d C) (m : c ∈ C) (hj : j < c.ws.length) (hl : c.p + c.ws.length < S.ws.length) (hd : H' d = H d) (hr : H' c.r = some (.lst ((c.ws.set j n).map V.int))) (k : ∀ a ∈ C, a.r ≠ c.r → H' a.r = H a.r) :
    CellsO f H' { S with ws := S.ws.set (c.p + 1 + j) n } d (setC C c.p j n) := by
  have el : ∀ b ∈ setC C c.p j n, ∃ a ∈ C, b.p = a.p ∧ b.r = a.r ∧ b.ws.length = a.ws.length ∧ ((a = c ∧ b.ws = c.ws.set j n) ∨ (a ≠ c ∧ b = a)) := fun b mb => by
    obtain ⟨a, ma, rfl⟩ := List.mem_map.mp mb
    by_cases e : a.p = c.p
    · have ea := h.same_p ma m e
      subst ea
      rw [if_pos rfl]
      exact ⟨a, ma, rfl, rfl, List.length_set .., .inl ⟨rfl, rfl⟩⟩
    · rw [if_neg e]
      exact ⟨a, ma, rfl, rfl, rfl, .inr ⟨fun z => e (by rw [z]), rfl⟩⟩
  have pw : ∀ {R : CeL → CeL → Prop}, (∀ a b a' b' : CeL, a'.p = a.p → a'.r = a.r → a'.ws.length = a.ws.length → b'.p = b.p → b'.r = b.r → b'.ws.length = b.ws.length → R a b → R a' b') → C.Pairwise R → (setC C c.p j n).Pairwise R := fun {R} tr q => by
    refine List.pairwise_map.mpr (q.imp fun {a b} r => tr _ _ _ _ ?_ ?_ ?_ ?_ ?_ ?_ r) <;> split <;> first | rfl | exact List.length_set ..
  refine ⟨by rw [hd, setC_kvs]; exact h.dd, fun b mb => ?_, fun b mb => ?_, fun b mb i hi => ?_, fun b mb => ?_, pw (fun a b a' b' e1 e2 e3 e4 e5 e6 q => by rw [e1, e3, e4, e6]; exact q) h.dj, pw (fun a b a' b' e1 e2 e3 e4 e5 e6 q => by rw [e2, e5]; exact q) h.rd⟩
  · obtain ⟨a, ma, e1, e2, e3, ⟨rfl, e4⟩ | ⟨ne, rfl⟩⟩ := el b mb
    · rw [e2, e4]
      exact hr
    · rw [k b ma (h.apart ma m ne).2]
      exact h.rw_ b ma
  · obtain ⟨a, ma, e1, e2, e3, e4⟩ := el b mb
    obtain ⟨ag, h1, h2⟩ := h.hd a ma
    refine ⟨ag, h1, ?_⟩
    rw [e1, e3, getD_set (by omega), if_neg ?_]
    · exact h2
    · rcases e4 with ⟨rfl, -⟩ | ⟨ne, -⟩
      · omega
      · have := (h.apart ma m ne).1
        omega
  · obtain ⟨a, ma, e1, e2, e3, ⟨rfl, e4⟩ | ⟨ne, rfl⟩⟩ := el b mb
    · rw [e3] at hi
      rw [e1, e4, getD_set (by omega), getD_set hj]
      by_cases e : j = i
      · subst e
        rw [if_pos rfl, if_pos rfl]
      · rw [if_neg (by omega), if_neg e]
        exact h.sl a ma i hi
    · have := (h.apart ma m ne).1
      rw [getD_set (by omega), if_neg (by omega)]
      exact h.sl b ma i hi
  · obtain ⟨a, ma, e1, e2, e3, -⟩ := el b mb
    show b.p + b.ws.length < S.ot ∨ S.b S.fl ≤ b.p ∧ b.p + b.ws.length < S.t S.fl
    rw [e1, e3]
    exact h.ar a ma
/-- the head that a cell has -/
theorem CellsO.head {f H S d C} (h : CellsO f H S d C) {c : CeL} (m : c ∈ C) (hl : c.p + c.ws.length < S.ws.length) : ∃ k, headW S.ws (.int (c.p : Int)) = .ok c.p k ∧ k / 4 = c.ws.length ∧ k ≤ 34 := by
  obtain ⟨a, h1, h2⟩ := h.hd c m
  obtain ⟨-, h3, -⟩ := headAt_some h2
  exact ⟨_, ans_head' (by omega) h2, by omega, h3⟩
theorem getD_rangeI {ts : List Int} : (List.range ts.length).map (fun i => ts.getD i 0) = ts := by
  refine List.ext_getElem (by rw [List.length_map, List.length_range]) fun i h1 h2 => ?_
  rw [List.getElem_map, List.getElem_range, List.getD_eq_getElem?_getD, List.getElem?_eq_getElem h2]
  rfl
theorem PlAll_ints {ns : List Int} : PlAll (ns.map V.int) (ns.map PyData.int) := by
  induction ns with
  | nil => exact .nil
  | cons n r ih => exact .cons (.int n) ih
theorem eqv_nil {ns : List Int} : PyData.eqv (.list (ns.map PyData.int)) (.list []) = decide (ns = []) := by
  cases ns with
  | nil => rfl
  | cons n r => rfl
theorem r_neNil {K : PySem.W.Frag} {H : Hp} {Q : VK} {a b : Addr} {ns : List Int} (h1 : H a = some (.lst (ns.map V.int))) (h2 : H b = some (.lst [])) (q : Q (.bl (!decide (ns = []))) H) : gNe K (.ref a) (.ref b) H Q :=
  r_nePl h1 h2 PlAll_ints .nil (by rw [eqv_nil]; exact q)
theorem r_eqNil {K : PySem.W.Frag} {H : Hp} {Q : VK} {a b : Addr} {ns : List Int} (h1 : H a = some (.lst (ns.map V.int))) (h2 : H b = some (.lst [])) (q : Q (.bl (decide (ns = []))) H) : gEq K (.ref a) (.ref b) H Q :=
  r_eqPl h1 h2 PlAll_ints .nil (by rw [eqv_nil]; exact q)
theorem gt_held {S : ArS} {hs : List Int} {i : Nat} {z : V} (hi : i < hs.length) (h : ∀ p, wordOf (hs.getD i 0) ≠ some (.place p)) : gtW S hs (.int (i : Int)) z = .held := by
  unfold gtW
  rw [placeOf_int, if_pos ⟨by omega, by omega⟩, Int.toNat_natCast]
  dsimp only
  split
  · rename_i p e
    exact absurd e (h p)
  · rfl
theorem mk_fits {S : ArS} {hs : List Int} {i s : Nat} (hi : i < hs.length) (hs8 : s ≤ 8) : mkW S hs (.int (i : Int)) (.int (s : Int)) = if s + 1 ≤ endA S (inOld S s) - topA S (inOld S s) then .ok i s else .room := by
  unfold mkW
  rw [placeOf_int, if_pos ⟨by omega, by omega⟩, Int.toNat_natCast, slotsW_int, if_pos ⟨by omega, by omega⟩, Int.toNat_natCast]
/-- a word tells a number, nothing, or one of these cells -/
def ClW (C : List CeL) (w : Int) : Prop := (wordOf w).isSome = true ∧ ∀ p, wordOf w = some (.place p) → ∃ c ∈ C, p = (c.p : Int)
theorem ClW.mono {C D : List CeL} {w : Int} (h : ClW C w) (s : ∀ c ∈ C, ∃ d ∈ D, d.p = c.p) : ClW D w := ⟨h.1, fun p e => let ⟨c, m, q⟩ := h.2 p e; let ⟨d, m2, q2⟩ := s c m; ⟨d, m2, by rw [q2]; exact q⟩⟩
theorem ClW.num {C : List CeL} {n : Int} (h : (n.natAbs : Int) ≤ 1000000000000) : ClW C (2 * n) := ⟨by rw [word_num h]; rfl, fun p e => by rw [word_num h] at e; cases e⟩
theorem ClW.non {C : List CeL} : ClW C (-1) := ⟨rfl, fun p e => by cases e⟩
theorem ClW.cell {C : List CeL} {c : CeL} (m : c ∈ C) (h : c.p ≤ 9999) : ClW C (2 * (c.p : Int) + 1) := ⟨by rw [word_place (by omega) (by omega)]; rfl, fun p e => by rw [word_place (by omega) (by omega)] at e; cases e; exact ⟨c, m, rfl⟩⟩
theorem cl_word {w p : Int} (h : wordOf w = some (.place p)) : w = 2 * p + 1 := by
  unfold wordOf at h
  repeat' split at h
  all_goals first
    | (cases h; done)
    | (cases h; omega)
/-- how a row is looked up by a word -/
theorem row_of {C : List CeL} (nd : C.Pairwise fun a b => 2 * (a.p : Int) + 1 ≠ 2 * (b.p : Int) + 1) {w : Int} (h : ClW C w) : (∃ c ∈ C, w = 2 * (c.p : Int) + 1 ∧ wordOf w = some (.place c.p) ∧ valV (kvsOf (fun p => 2 * (p : Int) + 1) C) (.inl w : Key) = some (.ref c.r)) ∨ ((∀ p, wordOf w ≠ some (.place p)) ∧ valV (kvsOf (fun p => 2 * (p : Int) + 1) C) (.inl w : Key) = none) := by
  cases e : wordOf w with
  | none =>
    have h1 := h.1
    rw [e] at h1
    cases h1
  | some x =>
    have other : (∀ p, x ≠ .place p) → valV (kvsOf (fun p => 2 * (p : Int) + 1) C) (.inl w : Key) = none := fun ne => kvs_none fun c m z => by
      have : wordOf w = some (.place c.p) ∨ ∃ y, wordOf w = some y := .inr ⟨x, e⟩
      unfold wordOf at e
      repeat' split at e
      all_goals first
        | (cases e; done)
        | (cases e; omega)
        | (cases e; exact ne _ rfl)
    cases x with
    | place p =>
      obtain ⟨c, m, rfl⟩ := h.2 p e
      have := cl_word e
      exact .inl ⟨c, m, this, rfl, by rw [this]; exact kvs_some (f := fun p => 2 * (p : Int) + 1) nd m⟩
    | nothing => exact .inr ⟨(fun p z => by cases z), other (fun p z => by cases z)⟩
    | num n => exact .inr ⟨(fun p z => by cases z), other (fun p z => by cases z)⟩

/-! ## cells without a heap -/
structure CelP (S : ArS) (C : List CeL) : Prop where
  hd : ∀ c ∈ C, ∃ a, a ≤ 2 ∧ headAt (S.ws.getD c.p 0) = some (4 * c.ws.length + a)
  sl : ∀ c ∈ C, ∀ j, j < c.ws.length → S.ws.getD (c.p + 1 + j) 0 = c.ws.getD j 0
  ar : ∀ c ∈ C, c.p + c.ws.length < S.ot ∨ (S.b S.fl ≤ c.p ∧ c.p + c.ws.length < S.t S.fl)
  dj : C.Pairwise fun a b => a.p + a.ws.length < b.p ∨ b.p + b.ws.length < a.p
theorem CellsO.cp {f H S d C} (h : CellsO f H S d C) : CelP S C := ⟨h.hd, h.sl, h.ar, h.dj⟩
theorem CelP.nil {S : ArS} : CelP S [] := ⟨(fun c m => (List.not_mem_nil m).elim), (fun c m => (List.not_mem_nil m).elim), (fun c m => (List.not_mem_nil m).elim), .nil⟩
theorem CelP.lt {S C} (h : CelP S C) (e : S.ws.length = S.n + 2 * S.k) (lo : S.ot ≤ S.n) (l1 : S.t S.fl ≤ S.b S.fl + S.k) : ∀ c ∈ C, c.p + c.ws.length < S.ws.length := fun c m => by
  have hb : S.b S.fl + S.k ≤ S.n + 2 * S.k := by unfold ArS.b; split <;> omega
  rcases h.ar c m with q | q <;> omega
theorem CelP.apart {S C} (h : CelP S C) {a b : CeL} (ha : a ∈ C) (hb : b ∈ C) (ne : a ≠ b) : a.p + a.ws.length < b.p ∨ b.p + b.ws.length < a.p := pair_mem (fun _ _ q => q.symm) h.dj ha hb ne
theorem CelP.same_p {S C} (h : CelP S C) {a b : CeL} (ha : a ∈ C) (hb : b ∈ C) (e : a.p = b.p) : a = b := by
  by_cases e2 : a = b
  · exact e2
  · have := h.apart ha hb e2
    omega
theorem CelP.head {S C} (h : CelP S C) {c : CeL} (m : c ∈ C) (hl : c.p + c.ws.length < S.ws.length) : ∃ k, headW S.ws (.int (c.p : Int)) = .ok c.p k ∧ k / 4 = c.ws.length ∧ k ≤ 34 := by
  obtain ⟨a, h1, h2⟩ := h.hd c m
  obtain ⟨-, h3, -⟩ := headAt_some h2
  exact ⟨_, ans_head' (by omega) h2, by omega, h3⟩
theorem CelP.fresh {S C s old} (h : CelP S C) (lo : S.ot ≤ S.n) (lbt : S.b S.fl ≤ S.t S.fl) (fit : topA S old + (s + 1) ≤ endA S old) : ∀ c ∈ C, c.p + c.ws.length < topA S old ∨ topA S old + s < c.p := fun c m => by
  have nb : S.n ≤ S.b S.fl := by unfold ArS.b; split <;> omega
  cases old
  · show c.p + c.ws.length < S.t S.fl ∨ _
    have fit : S.t S.fl + (s + 1) ≤ S.b S.fl + S.k := fit
    rcases h.ar c m with q | q <;> omega
  · have : S.ot + (s + 1) ≤ S.n := fit
    show c.p + c.ws.length < S.ot ∨ S.ot + s < c.p
    rcases h.ar c m with q | q <;> omega
/-- a cell more -/
theorem CelP.lay {S C s old} {r : Addr} (h : CelP S C) (s8 : s ≤ 8) (ln : S.ws.length = S.n + 2 * S.k) (lo : S.ot ≤ S.n) (lb : S.b S.fl ≤ S.t S.fl) (fit : topA S old + (s + 1) ≤ endA S old) :
    CelP (laidS S old s) (C ++ [⟨topA S old, r, List.replicate s (-1)⟩]) := by
  have nb : S.n ≤ S.b S.fl := by unfold ArS.b; split <;> omega
  have hbk : S.b S.fl + S.k ≤ S.n + 2 * S.k := by unfold ArS.b; split <;> omega
  have hl : topA S old + s < S.ws.length := by
    cases old
    · have : S.t S.fl + (s + 1) ≤ S.b S.fl + S.k := fit
      show S.t S.fl + s < _
      omega
    · have : S.ot + (s + 1) ≤ S.n := fit
      show S.ot + s < _
      omega
  have off := h.fresh lo lb fit
  obtain ⟨e1, e2, e3, e4⟩ := laidS_same (S := S) (old := old) (s := s)
  have rl : (List.replicate s (-1 : Int)).length = s := List.length_replicate
  refine ⟨fun c m => ?_, fun c m j hj => ?_, fun c m => ?_, ?_⟩
  · rcases List.mem_append.mp m with m | m
    · rw [laidS_off (by rcases off c m with q | q <;> omega)]
      exact h.hd c m
    · rw [List.mem_singleton.mp m]
      refine ⟨if old then 2 else 0, by split <;> omega, ?_⟩
      rw [laidS_head s8 hl]
      show _ = some (4 * (List.replicate s (-1 : Int)).length + _)
      rw [rl]
  · rcases List.mem_append.mp m with m | m
    · rw [laidS_off (by rcases off c m with q | q <;> omega)]
      exact h.sl c m j hj
    · rw [List.mem_singleton.mp m] at hj ⊢
      have hj : j < s := by rw [← rl]; exact hj
      rw [laidS_slot hj hl]
      show _ = (List.replicate s (-1 : Int)).getD j 0
      rw [List.getD_eq_getElem?_getD, List.getElem?_replicate, if_pos hj]
      rfl
  · rw [e1, e4, laidS_ot, laidS_t]
    rcases List.mem_append.mp m with m | m
    · rcases h.ar c m with q | q
      · refine .inl ?_
        split <;> omega
      · refine .inr ⟨q.1, ?_⟩
        split <;> omega
    · rw [List.mem_singleton.mp m]
      show topA S old + (List.replicate s (-1 : Int)).length < _ ∨ S.b S.fl ≤ topA S old ∧ topA S old + (List.replicate s (-1 : Int)).length < _
      rw [rl]
      cases old
      · refine .inr ⟨lb, ?_⟩
        show S.t S.fl + s < S.t S.fl + (s + 1)
        omega
      · refine .inl ?_
        show S.ot + s < S.ot + (s + 1)
        omega
  · refine List.pairwise_append.mpr ⟨h.dj, List.pairwise_singleton _ _, fun a ha b hb => ?_⟩
    rw [List.mem_singleton.mp hb]
    show _ ∨ topA S old + (List.replicate s (-1 : Int)).length < _
    rw [rl]
    exact off a ha
/-- the words that cells take -/
def sumW (C : List CeL) : Nat := (C.map fun c => c.ws.length + 1).sum
theorem sumW_app {C : List CeL} {c : CeL} : sumW (C ++ [c]) = sumW C + (c.ws.length + 1) := by
  unfold sumW
  rw [List.map_append, List.sum_append]
  rfl
/-- the words of the cell at a place -/
def wC (C : List CeL) (x : Int) : Int := match C.find? fun c => decide ((c.p : Int) = x) with
  | some c => (c.ws.length : Int) + 1
  | none => 0
theorem wC_mem {S C} (h : CelP S C) {c : CeL} (m : c ∈ C) : wC C c.p = (c.ws.length : Int) + 1 := by
  unfold wC
  cases e : C.find? fun a => decide ((a.p : Int) = c.p) with
  | none =>
    have := List.find?_eq_none.mp e c m
    exact absurd (decide_eq_true rfl) this
  | some a =>
    have h1 := List.find?_some e
    have h2 := List.mem_of_find?_eq_some e
    rw [decide_eq_true_eq] at h1
    rw [h.same_p h2 m (by omega)]
theorem wC_ge {C : List CeL} {x : Int} : 0 ≤ wC C x := by
  unfold wC
  split <;> omega
theorem wC_sum {S C} (h : CelP S C) : (((C.map fun c => (c.p : Int))).map (wC C)).sum = (sumW C : Int) := by
  have : ∀ D : List CeL, (∀ c ∈ D, c ∈ C) → ((D.map fun c => (c.p : Int)).map (wC C)).sum = (sumW D : Int) := by
    intro D
    induction D with
    | nil => intro _; rfl
    | cons c r ih =>
      intro hm
      have e : sumW (c :: r) = (c.ws.length + 1) + sumW r := rfl
      rw [List.map_cons, List.map_cons, List.sum_cons, ih (fun c m => hm c (List.mem_cons_of_mem _ m)), wC_mem h (hm c List.mem_cons_self), e]
      omega
  exact this C fun c m => m
theorem sum_ge {w : Int → Int} (h : ∀ x, 0 ≤ w x) : ∀ xs : List Int, 0 ≤ (xs.map w).sum
  | [] => Int.le_refl _
  | x :: r => by
    rw [List.map_cons, List.sum_cons]
    have := sum_ge h r
    have := h x
    omega
theorem sum_perm {xs ys : List Int} (h : xs.Perm ys) : xs.sum = ys.sum := by
  induction h with
  | nil => rfl
  | cons x _ ih => rw [List.sum_cons, List.sum_cons, ih]
  | swap x y l => rw [List.sum_cons, List.sum_cons, List.sum_cons, List.sum_cons]; omega
  | trans _ _ h1 h2 => exact h1.trans h2
/-! ## dicts of numbers -/
def kvI (ps : List (Int × Int)) : List (Key × V) := ps.map fun p => (.inl p.1, .int p.2)
theorem kvI_none {ps : List (Int × Int)} {n : Int} (h : ∀ p ∈ ps, p.1 ≠ n) : valV (kvI ps) (.inl n : Key) = none := by
  induction ps with
  | nil => rfl
  | cons p r ih =>
    have e2 : ¬ ((.inl p.1 : Key) = .inl n) := fun z => h p (List.mem_cons_self) (Sum.inl.inj z)
    exact (valV_neg (p := ((.inl p.1 : Key), V.int p.2)) (r := kvI r) e2).trans (ih fun c m => h c (List.mem_cons_of_mem _ m))
theorem kvI_some {ps : List (Int × Int)} {p : Int × Int} (nd : ps.Pairwise fun a b => a.1 ≠ b.1) (h : p ∈ ps) : valV (kvI ps) (.inl p.1 : Key) = some (.int p.2) := by
  induction ps with
  | nil => exact (List.not_mem_nil h).elim
  | cons a r ih =>
    obtain ⟨n1, n2⟩ := List.pairwise_cons.mp nd
    rcases List.mem_cons.mp h with rfl | h
    · exact valV_pos rfl
    · have e2 : ¬ ((.inl a.1 : Key) = .inl p.1) := fun z => n1 p h (Sum.inl.inj z)
      exact (valV_neg (p := ((.inl a.1 : Key), V.int a.2)) (r := kvI r) e2).trans (ih n2 h)
theorem kvI_put {ps : List (Int × Int)} {p : Int × Int} (h : ∀ a ∈ ps, a.1 ≠ p.1) : putK (kvI ps) (.inl p.1 : Key) (.int p.2) = kvI (ps ++ [p]) := by
  unfold putK
  rw [valV_any, kvI_none h]
  show kvI ps ++ [(.inl p.1, .int p.2)] = _
  unfold kvI
  rw [List.map_append]
  rfl
theorem kvI_len {ps : List (Int × Int)} : (kvI ps).length = ps.length := List.length_map ..
theorem kvI_flat {ps : List (Int × Int)} : ∀ p ∈ kvI ps, flatB p.2 = true := fun p m => by
  obtain ⟨q, -, rfl⟩ := List.mem_map.mp m
  rfl
theorem kvI_nd {ps : List (Int × Int)} (nd : (ps.map (·.1)).Nodup) : ((kvI ps).map (·.1)).Nodup := by
  have e : (kvI ps).map (·.1) = (ps.map (·.1)).map (fun n => (.inl n : Key)) := by
    unfold kvI
    rw [List.map_map, List.map_map]
    rfl
  rw [e]
  exact List.Pairwise.map _ (fun a b h z => h (Sum.inl.inj z)) nd
theorem kvI_pw {ps : List (Int × Int)} (nd : (ps.map (·.1)).Nodup) : ps.Pairwise fun a b => a.1 ≠ b.1 := List.pairwise_map.mp nd
/-! ## where cells go -/
def goL (w : Int → Int) : Int → List Int → List (Int × Int)
  | _, [] => []
  | t, a :: r => (a, t) :: goL w (t + w a) r
theorem goL_fst {w : Int → Int} : ∀ {xs : List Int} {t : Int}, (goL w t xs).map (·.1) = xs
  | [], _ => rfl
  | a :: r, t => by
    show a :: (goL w (t + w a) r).map (·.1) = _
    rw [goL_fst]
theorem goL_app {w : Int → Int} {a : Int} : ∀ {xs : List Int} {t : Int}, goL w t (xs ++ [a]) = goL w t xs ++ [(a, t + (xs.map w).sum)]
  | [], t => by
    show [(a, t)] = [(a, t + 0)]
    rw [Int.add_zero]
  | b :: r, t => by
    show (b, t) :: goL w (t + w b) (r ++ [a]) = (b, t) :: (goL w (t + w b) r ++ [_])
    rw [goL_app, List.map_cons, List.sum_cons, Int.add_assoc]
theorem goL_len {w : Int → Int} {xs : List Int} {t : Int} : (goL w t xs).length = xs.length := by
  have := congrArg List.length (goL_fst (w := w) (xs := xs) (t := t))
  rwa [List.length_map] at this
theorem goL_at {w : Int → Int} : ∀ {xs : List Int} {t : Int} {i : Nat} {a : Int}, xs[i]? = some a → (a, t + ((xs.take i).map w).sum) ∈ goL w t xs
  | [], _, _, _, e => by cases e
  | b :: r, t, 0, a, e => by
    cases e
    rw [List.take_zero]
    show (b, t + 0) ∈ (b, t) :: _
    rw [Int.add_zero]
    exact List.mem_cons_self
  | b :: r, t, i + 1, a, e => by
    have e : r[i]? = some a := e
    have := goL_at (w := w) (t := t + w b) e
    rw [List.take_succ_cons, List.map_cons, List.sum_cons, ← Int.add_assoc]
    exact List.mem_cons_of_mem _ this
theorem go_le {w : Int → Int} : ∀ {xs : List Int} {t : Int} {i : Nat} {a : Int}, (xs.Pairwise fun a b => a + w a ≤ b) → (∀ x ∈ xs, t ≤ x) → xs[i]? = some a → t + ((xs.take i).map w).sum ≤ a
  | [], _, _, _, _, _, e => by cases e
  | b :: r, t, 0, a, _, h, e => by
    cases e
    rw [List.take_zero]
    show t + 0 ≤ b
    have := h b List.mem_cons_self
    omega
  | b :: r, t, i + 1, a, pw, h, e => by
    have e : r[i]? = some a := e
    obtain ⟨p1, p2⟩ := List.pairwise_cons.mp pw
    rw [List.take_succ_cons, List.map_cons, List.sum_cons, ← Int.add_assoc]
    refine go_le p2 (fun x m => ?_) e
    have := p1 x m
    have := h b List.mem_cons_self
    omega
/-- places of cells, rising -/
theorem CelP.rise {S C} (h : CelP S C) {xs : List Int} (so : xs.Pairwise (· ≤ ·)) (nd : xs.Nodup) (hm : ∀ x ∈ xs, ∃ c ∈ C, x = (c.p : Int)) : xs.Pairwise fun a b => a + wC C a ≤ b := by
  have pq : xs.Pairwise fun a b => a ≤ b ∧ a ≠ b := List.pairwise_and_iff.mpr ⟨so, nd⟩
  refine List.Pairwise.imp_of_mem (fun {a b} ma mb q => ?_) pq
  obtain ⟨c, mc, rfl⟩ := hm a ma
  obtain ⟨d, md, rfl⟩ := hm b mb
  rw [wC_mem h mc]
  have ne : c ≠ d := fun z => q.2 (by rw [z])
  have := h.apart mc md ne
  omega

local macro_rules | `(tactic| walk_at "w3") => `(tactic| try simp only [↓x_var0, ↓x_varS, ↓x_c, ↓x_op, ↓x_un, ↓x_cb, ↓x_nil, ↓x_cons, ↓x_test, ↓x_b, ↓x_ex, ↓x_and, ↓x_or, ↓x_not, ↓x_andV, ↓x_orV, ↓x_notV, ↓x_tif, ↓x_chain, ↓x_menu, ↓x_menuI, ↓x_lst, ↓x_tup, ↓x_dnew, ↓x_callW, ↓x_callN, ↓x_seq, ↓x_next, ↓x_ret, ↓x_retN, ↓x_drop, ↓x_ifS, ↓x_asg, ↓x_name, ↓x_raise, ↓x_fld, ↓x_setF, ↓x_meth, ↓x_make, ↓x_sub, ↓r_min, ↓r_max, ↓x_yes, ↓x_for, ↓x_lock, ↓x_keys, ↓x_cut, ↓x_lc, ↓x_rng1, ↓x_rng2, ↓x_lst1, ↓x_itup, ↓x_rng3, ↓x_three, ↓x_lstg, ↓x_tupg, ↓x_adrS, ↓x_one, ↓x_two, ↓x_adr, ↓x_sl, ↓x_np, ↓x_pt, ↓x_int, ↓x_bm, ↓x_bm0, ↓x_consg, ↓x_nilg, ↓x_dget2, ↓x_dget1, ↓x_dget, ↓x_din, ↓x_dni, ↓x_dput, ↓x_dpop2, ↓r_isB, ↓r_notB, ↓x_enum, ↓x_zip, ↓x_str, ↓x_strE, ↓r_inS, ↓r_ninS, wipe, List.map_cons, List.map_nil, ↓x_isT, ↓r_isiII, ↓r_isiBB, ↓r_isiIB, ↓r_isiSS, ↓r_neNS, ↓r_neSN, ↓r_neNN, ↓r_eqNS, ↓r_eqSN, ↓r_eqNN, ↓r_eqIS, ↓r_neIS, ↓r_neSI, ↓r_neBS, ↓r_eqBB, ↓r_neBB, ↓x_start, ↓x_K, ↓x_start0, ↓r_i0, ↓r_i, ↓r_u, ↓r_addI, ↓r_addS, ↓r_mulI, ↓r_mulS, ↓r_eqI, ↓r_neI, ↓r_eqS, ↓r_neS, ↓r_absI, ↓r_intI, ↓r_intB, List.length_cons, List.length_nil, List.replicate, List.set_cons_zero, List.set_cons_succ, decide_eq_true_eq, Bool.not_eq_true', decide_eq_false_iff_not, if_true, if_false, Bool.false_eq_true, Bool.true_eq_false, ite_true, ite_false, Bool.not_true, Bool.not_false, c_div, n_ten, c_pow, not_true_eq_false, not_false_eq_true, decide_true, decide_false, true_and, and_true, and_self, true_or, or_true, Int.reduceLT, Int.reduceLE, Int.reduceMul, Int.reduceAdd, Int.reduceSub, Int.reducePow, Int.reduceNeg, Int.reduceDiv, Int.reduceMod, Nat.reducePow, Int.reduceToNat, Int.reduceEq, Int.reduceNe, Nat.reduceLT, Nat.reduceLeDiff, Nat.reduceAdd, ↓x_whole, ↓x_kind])
/-! ## names and tickets of a heap change -/
theorem HeapO.wkput {K H G S T} (h : HeapO K H G S T) {us : List V} : HeapO K (upd H G.R.wl (.lst us)) G S { T with ts := us } := by
  have i : ∀ {b C d fs}, H b = some (.ins C d fs) → upd H G.R.wl (.lst us) b = some (.ins C d fs) := fun g => (upd_ne (ne_of g h.ro.wo.ls (by intro z; cases z))).trans g
  have l : ∀ {b o}, b ≠ G.R.wl → H b = some o → upd H G.R.wl (.lst us) b = some o := fun n g => (upd_ne n).trans g
  exact { h with ob := i h.ob, ar := h.ar.put h.ro.wo.ls h.m2, ro := { h.ro with ob := i h.ro.ob, ho := ⟨i h.ro.ho.ob, l h.ro.n1 h.ro.ho.ls, h.ro.ho.vw, h.ro.ho.sz⟩, bo := ⟨i h.ro.bo.ob, l (ne_of h.ro.bo.ds h.ro.wo.ls (by intro z; cases z)) h.ro.bo.ds, h.ro.bo.nd⟩, wo := h.ro.wo.put, lo := ⟨i h.ro.lo.ob, l h.ro.n4.symm h.ro.lo.wa, h.ro.lo.wt.put h.ro.wo.ls (fun _ z => by cases z), l h.ro.n5.symm h.ro.lo.sk, h.ro.lo.de⟩ } }
theorem HeapO.lsput {K H H' G S T rs ws ss} (h : HeapO K H G S T) (L : LastO K H' G.R.la G.R.lax G.R.d G.R.e rs ws ss) (k : ∀ c o, c ≠ G.R.d → c ≠ G.R.e → H c = some o → H' c = some o) : HeapO K H' G S { T with rs := rs, ws := ws, ss := ss } := by
  have i : ∀ {b C d fs}, H b = some (.ins C d fs) → H' b = some (.ins C d fs) := fun g => k _ _ (ne_of g h.ro.lo.wa (by intro z; cases z)) (ne_of g h.ro.lo.sk (by intro z; cases z)) g
  exact { h with ob := i h.ob, ar := { h.ar with ob := i h.ar.ob, me := ⟨i h.ar.me.ob, k _ _ h.m3 h.m4 h.ar.me.ls, h.ar.me.sz⟩, so := i h.ar.so, sp := i h.ar.sp, sq := i h.ar.sq }, ro := { h.ro with ob := i h.ro.ob, ho := ⟨i h.ro.ho.ob, k _ _ h.ro.n2 h.ro.n3 h.ro.ho.ls, h.ro.ho.vw, h.ro.ho.sz⟩, bo := ⟨i h.ro.bo.ob, k _ _ (ne_of h.ro.bo.ds h.ro.lo.wa (by intro z; cases z)) (ne_of h.ro.bo.ds h.ro.lo.sk (by intro z; cases z)) h.ro.bo.ds, h.ro.bo.nd⟩, wo := ⟨i h.ro.wo.ob, k _ _ h.ro.n4 h.ro.n5 h.ro.wo.ls⟩, lo := L } }

local macro_rules | `(tactic| walk_at "w3") => `(tactic| try simp only [↓x_var0, ↓x_varS, ↓x_c, ↓x_op, ↓x_un, ↓x_cb, ↓x_nil, ↓x_cons, ↓x_test, ↓x_b, ↓x_ex, ↓x_and, ↓x_or, ↓x_not, ↓x_andV, ↓x_orV, ↓x_notV, ↓x_tif, ↓x_chain, ↓x_menu, ↓x_menuI, ↓x_lst, ↓x_tup, ↓x_dnew, ↓x_callW, ↓x_callN, ↓x_seq, ↓x_next, ↓x_ret, ↓x_retN, ↓x_drop, ↓x_ifS, ↓x_asg, ↓x_name, ↓x_raise, ↓x_fld, ↓x_setF, ↓x_meth, ↓x_make, ↓x_sub, ↓r_min, ↓r_max, ↓x_yes, ↓x_for, ↓x_lock, ↓x_keys, ↓x_cut, ↓x_lc, ↓x_rng1, ↓x_rng2, ↓x_lst1, ↓x_itup, ↓x_rng3, ↓x_three, ↓x_lstg, ↓x_tupg, ↓x_adrS, ↓x_one, ↓x_two, ↓x_adr, ↓x_sl, ↓x_np, ↓x_pt, ↓x_int, ↓x_bm, ↓x_bm0, ↓x_consg, ↓x_nilg, ↓x_dget2, ↓x_dget1, ↓x_dget, ↓x_din, ↓x_dni, ↓x_dput, ↓x_dpop2, ↓r_isB, ↓r_notB, ↓x_enum, ↓x_zip, ↓x_str, ↓x_strE, ↓r_inS, ↓r_ninS, wipe, List.map_cons, List.map_nil, ↓x_isT, ↓r_isiII, ↓r_isiBB, ↓r_isiIB, ↓r_isiSS, ↓r_neNS, ↓r_neSN, ↓r_neNN, ↓r_eqNS, ↓r_eqSN, ↓r_eqNN, ↓r_eqIS, ↓r_neIS, ↓r_neSI, ↓r_neBS, ↓r_eqBB, ↓r_neBB, ↓x_start, ↓x_K, ↓x_start0, ↓r_i0, ↓r_i, ↓r_u, ↓r_addI, ↓r_addS, ↓r_mulI, ↓r_mulS, ↓r_eqI, ↓r_neI, ↓r_eqS, ↓r_neS, ↓r_absI, ↓r_intI, ↓r_intB, List.length_cons, List.length_nil, List.replicate, List.set_cons_zero, List.set_cons_succ, decide_eq_true_eq, Bool.not_eq_true', decide_eq_false_iff_not, if_true, if_false, Bool.false_eq_true, Bool.true_eq_false, ite_true, ite_false, Bool.not_true, Bool.not_false, c_div, n_ten, c_pow, not_true_eq_false, not_false_eq_true, decide_true, decide_false, true_and, and_true, and_self, true_or, or_true, Int.reduceLT, Int.reduceLE, Int.reduceMul, Int.reduceAdd, Int.reduceSub, Int.reducePow, Int.reduceNeg, Int.reduceDiv, Int.reduceMod, Nat.reducePow, Int.reduceToNat, Int.reduceEq, Int.reduceNe, Nat.reduceLT, Nat.reduceLeDiff, Nat.reduceAdd, ↓x_whole, ↓x_kind])
/-! ## what is sound: in plain -/
/-- how many words the cell at a place takes, 0 where none stands -/
def wAt (ws : List Int) (p : Nat) : Nat := match headAt (ws.getD p 0) with
  | some h => h / 4 + 1
  | none => 0
def agAt (ws : List Int) (p : Nat) : Nat := match headAt (ws.getD p 0) with
  | some h => h % 4
  | none => 3
theorem wAt_le {ws : List Int} {p : Nat} : wAt ws p ≤ 9 := by
  unfold wAt
  split
  · rename_i h e
    have := (headAt_some e).2.1
    omega
  · exact Nat.zero_le _
/-- the places of cells one behind the other, up to a top -/
def walkL (ws : List Int) (t p : Nat) : Option (List Nat) :=
  if _ : p < t then (if _ : wAt ws p = 0 then none else (walkL ws t (p + wAt ws p)).map (p :: ·)) else if p = t then some [] else none
termination_by t - p
theorem walkL_go {ws : List Int} {t p : Nat} (h : p < t) (w : wAt ws p ≠ 0) : walkL ws t p = (walkL ws t (p + wAt ws p)).map (p :: ·) := by
  rw [walkL, dif_pos h, dif_neg w]
theorem walkL_no {ws : List Int} {t p : Nat} (h : p < t) (w : wAt ws p = 0) : walkL ws t p = none := by
  rw [walkL, dif_pos h, dif_pos w]
theorem walkL_end {ws : List Int} {t : Nat} : walkL ws t t = some [] := by
  rw [walkL, dif_neg (Nat.lt_irrefl t), if_pos rfl]
theorem walkL_over {ws : List Int} {t p : Nat} (h : t < p) : walkL ws t p = none := by
  rw [walkL, dif_neg (by omega), if_neg (by omega)]
inductive Tile (ws : List Int) (t : Nat) : Nat → List Nat → Prop where
  | nil : Tile ws t t []
  | cons {p : Nat} {ps : List Nat} (h : p < t) (w : wAt ws p ≠ 0) (c : Tile ws t (p + wAt ws p) ps) : Tile ws t p (p :: ps)
theorem Tile.walk {ws : List Int} {t p : Nat} {ps : List Nat} (c : Tile ws t p ps) : walkL ws t p = some ps := by
  induction c with
  | nil => exact walkL_end
  | cons h w c ih => rw [walkL_go h w, ih]; rfl
theorem walk_tile {ws : List Int} {t : Nat} : ∀ {m p : Nat} {ps : List Nat}, t - p ≤ m → walkL ws t p = some ps → Tile ws t p ps := by
  intro m
  induction m with
  | zero =>
    intro p ps hm e
    rcases Nat.lt_trichotomy p t with h | h | h
    · omega
    · subst h
      rw [walkL_end] at e
      cases e
      exact .nil
    · rw [walkL_over h] at e
      cases e
  | succ m ih =>
    intro p ps hm e
    rcases Nat.lt_trichotomy p t with h | h | h
    · by_cases w : wAt ws p = 0
      · rw [walkL_no h w] at e
        cases e
      · rw [walkL_go h w] at e
        cases e2 : walkL ws t (p + wAt ws p) with
        | none => rw [e2] at e; cases e
        | some qs =>
          rw [e2] at e
          cases e
          exact .cons h w (ih (by omega) e2)
    · subst h
      rw [walkL_end] at e
      cases e
      exact .nil
    · rw [walkL_over h] at e
      cases e
theorem Tile.fit {ws : List Int} {t p : Nat} {ps : List Nat} (c : Tile ws t p ps) : p ≤ t ∧ ∀ x ∈ ps, p ≤ x ∧ x + wAt ws x ≤ t ∧ wAt ws x ≠ 0 := by
  induction c with
  | nil => exact ⟨Nat.le_refl _, fun x m => (List.not_mem_nil m).elim⟩
  | cons h w c ih =>
    obtain ⟨i1, i2⟩ := ih
    refine ⟨by omega, fun x m => ?_⟩
    rcases List.mem_cons.mp m with rfl | m
    · exact ⟨Nat.le_refl _, i1, w⟩
    · obtain ⟨a, b, c⟩ := i2 x m
      exact ⟨by omega, b, c⟩
theorem Tile.len {ws : List Int} {t p : Nat} {ps : List Nat} (c : Tile ws t p ps) : ps.length ≤ t - p := by
  induction c with
  | nil => exact Nat.zero_le _
  | cons h w c ih =>
    have := c.fit.1
    rw [List.length_cons]
    omega
theorem Tile.snoc {ws ws' : List Int} {t p m : Nat} {ps : List Nat} (c : Tile ws t p ps) (k : ∀ x ∈ ps, wAt ws' x = wAt ws x) (e : wAt ws' t = m) (m0 : m ≠ 0) : Tile ws' (t + m) p (ps ++ [t]) := by
  induction c with
  | nil => exact .cons (by omega) (by omega) (by rw [e]; exact .nil)
  | cons h w c ih =>
    have kx := k _ List.mem_cons_self
    have := ih fun x m => k x (List.mem_cons_of_mem _ m)
    exact .cons (by omega) (by rw [kx]; exact w) (by rw [kx]; exact this)
theorem Tile.cong {ws ws' : List Int} {t p : Nat} {ps : List Nat} (c : Tile ws t p ps) (k : ∀ x ∈ ps, wAt ws' x = wAt ws x) : Tile ws' t p ps := by
  induction c with
  | nil => exact .nil
  | cons h w c ih =>
    have kx := k _ List.mem_cons_self
    exact .cons h (by rw [kx]; exact w) (by rw [kx]; exact ih fun x m => k x (List.mem_cons_of_mem _ m))
/-- the last cell is another one -/
theorem Tile.spoil {ws ws' : List Int} {t p q : Nat} {ps : List Nat} (c : Tile ws t p (ps ++ [q])) (k : ∀ x ∈ ps, wAt ws' x = wAt ws x) (h : walkL ws' t q = none) : walkL ws' t p = none := by
  induction ps generalizing p with
  | nil =>
    cases c with
    | cons _ _ _ => exact h
  | cons x r ih =>
    cases c with
    | cons hx w c =>
      have kx := k _ List.mem_cons_self
      rw [walkL_go hx (by rw [kx]; exact w), kx, ih c fun x m => k x (List.mem_cons_of_mem _ m)]
      rfl
theorem nats_at {cs : List Nat} {i : Nat} {x : V} (h : ((cs.map fun p : Nat => (p : Int)).map V.int)[i]? = some x) : ∃ n, cs[i]? = some n ∧ x = .int (n : Int) := by
  rw [List.map_map, List.getElem?_map] at h
  cases e : cs[i]? with
  | none => rw [e] at h; cases h
  | some n => rw [e] at h; cases h; exact ⟨n, rfl, rfl⟩
theorem wAt_head {ws : List Int} {p : Nat} (h : wAt ws p ≠ 0) : ∃ k, headAt (ws.getD p 0) = some k ∧ wAt ws p = k / 4 + 1 := by
  unfold wAt at h ⊢
  cases e : headAt (ws.getD p 0) with
  | none => rw [e] at h; exact absurd rfl h
  | some k => exact ⟨k, rfl, rfl⟩
def optN : Option (List Nat) → Hp → VK → Prop
  | none, H, Q => ∀ H', Same H H' → Q .non H'
  | some ps, H, Q => ∀ l H', H l = none → Same H H' → H' l = some (.lst ((ps.map fun p : Nat => (p : Int)).map V.int)) → Q (.ref l) H'
/-- all places that are told -/
def namesI (ts : List V) : List Int := ts.filterMap fun | .int n => some n | _ => none
def lastsI (lw : List (Option (Int × Int))) : List Int := lw.filterMap fun o => o.map (·.1)
def kidsP (ws : List Int) (p : Nat) : List Int := kidsT ws p (wAt ws p - 1)
def toldP (ws hs : List Int) (ts : List V) (lw : List (Option (Int × Int))) (cs : List Nat) : List Int := placesW hs ++ (cs.map (kidsP ws)).flatten ++ namesI ts ++ lastsI lw
/-- the slots in which places of some cells stand -/
def dueT (ws : List Int) (ys : List Nat) (p t : Nat) : List Int := (List.range t).filterMap fun s => match wordOf (ws.getD (p + 1 + s) 0) with
  | some (.place x) => if x ∈ ys.map (fun p : Nat => (p : Int)) then some ((p + 1 + s : Nat) : Int) else none
  | _ => none
def dueP (ws : List Int) (os ys : List Nat) : List Int := (os.map fun p => dueT ws ys p (wAt ws p - 1)).flatten
theorem kids_sum {ws : List Int} : ∀ {cs : List Nat}, ((cs.map (kidsP ws)).flatten).length ≤ 9 * cs.length
  | [] => Nat.zero_le _
  | p :: r => by
    rw [List.map_cons, List.flatten_cons, List.length_append, List.length_cons]
    have h1 := kids_sum (ws := ws) (cs := r)
    have h2 : (kidsP ws p).length ≤ 9 := Nat.le_trans kidsT_len (by have := wAt_le (ws := ws) (p := p); omega)
    omega
theorem dueT_len {ws : List Int} {ys : List Nat} {p t : Nat} : (dueT ws ys p t).length ≤ t := by
  have := List.length_filterMap_le (fun s => match wordOf (ws.getD (p + 1 + s) 0) with
    | some (.place x) => if x ∈ ys.map (fun p : Nat => (p : Int)) then some ((p + 1 + s : Nat) : Int) else none
    | _ => none) (List.range t)
  rw [List.length_range] at this
  exact this
theorem dueT_succ {ws : List Int} {ys : List Nat} {p t : Nat} : dueT ws ys p (t + 1) = dueT ws ys p t ++ (match wordOf (ws.getD (p + 1 + t) 0) with
    | some (.place x) => if x ∈ ys.map (fun p : Nat => (p : Int)) then [((p + 1 + t : Nat) : Int)] else []
    | _ => []) := by
  unfold dueT
  rw [List.range_succ, List.filterMap_append]
  congr 1
  rw [List.filterMap_cons, List.filterMap_nil]
  cases e : wordOf (ws.getD (p + 1 + t) 0) with
  | none => rfl
  | some w =>
    cases w with
    | place x =>
      dsimp only
      by_cases c : x ∈ ys.map (fun p : Nat => (p : Int))
      · rw [if_pos c, if_pos c]
      · rw [if_neg c, if_neg c]
    | _ => rfl
theorem Vw.at {ws : List Int} (h : Vw ws) {i : Nat} (hi : i < ws.length) : (wordOf (ws.getD i 0)).isSome = true := h _ (by
  rw [List.getD_eq_getElem?_getD, List.getElem?_eq_getElem hi]
  exact List.getElem_mem hi)
theorem due_len {ws : List Int} {ys : List Nat} : ∀ {os : List Nat}, (dueP ws os ys).length ≤ 9 * os.length
  | [] => Nat.zero_le _
  | p :: r => by
    unfold dueP
    rw [List.map_cons, List.flatten_cons, List.length_append, List.length_cons]
    have h1 := due_len (ws := ws) (os := r) (ys := ys)
    unfold dueP at h1
    have h2 : (dueT ws ys p (wAt ws p - 1)).length ≤ 9 := Nat.le_trans dueT_len (by have := wAt_le (ws := ws) (p := p); omega)
    omega
theorem tups_at {H : Hp} {rs : List V} {yss : List (List V)} (h : TupAll H rs yss) : ∀ {i : Nat} {x : V}, rs[i]? = some x → ∃ tp xs, x = .ref tp ∧ H tp = some (.tup xs) ∧ yss[i]? = some xs := by
  induction h with
  | nil => exact fun e => by cases e
  | cons h f t ih =>
    intro i x e
    cases i with
    | zero => cases e; exact ⟨_, _, rfl, h, rfl⟩
    | succ i => exact ih e
theorem pairs_at {ts : List V} (fl : ∀ t ∈ ts, flatN t = true) : ∀ {k : Nat}, (pairsOf k ts).length = (namesI ts).length ∧ ∀ (i : Nat) (xs : List V), (pairsOf k ts)[i]? = some xs → ∃ a n : Int, xs = [.int a, .int n] ∧ (namesI ts)[i]? = some n := by
  induction ts with
  | nil => exact fun {k} => ⟨rfl, fun i xs e => by cases e⟩
  | cons t r ih =>
    intro k
    have f := fl t List.mem_cons_self
    obtain ⟨h1, h2⟩ := ih (fun t h => fl t (List.mem_cons_of_mem _ h)) (k := k + 1)
    cases t with
    | non => exact ⟨h1, h2⟩
    | int n =>
      refine ⟨congrArg (· + 1) h1, fun i xs e => ?_⟩
      cases i with
      | zero => cases e; exact ⟨_, n, rfl, rfl⟩
      | succ i => exact h2 i xs e
    | _ => cases f
theorem pend_at {lw : List (Option (Int × Int))} : ∀ {k : Nat}, (pendOf k lw).length = (lastsI lw).length ∧ ∀ (i : Nat) (xs : List V), (pendOf k lw)[i]? = some xs → ∃ a n b : Int, xs = [.int a, .int n, .int b] ∧ (lastsI lw)[i]? = some n := by
  induction lw with
  | nil => exact fun {k} => ⟨rfl, fun i xs e => by cases e⟩
  | cons t r ih =>
    intro k
    obtain ⟨h1, h2⟩ := ih (k := k + 1)
    cases t with
    | none => exact ⟨h1, h2⟩
    | some p =>
      refine ⟨congrArg (· + 1) h1, fun i xs e => ?_⟩
      cases i with
      | zero => cases e; exact ⟨_, _, _, rfl, rfl⟩
      | succ i => exact h2 i xs e
theorem namesI_len {ts : List V} : (namesI ts).length ≤ ts.length := List.length_filterMap_le ..
theorem lastsI_len {lw : List (Option (Int × Int))} : (lastsI lw).length ≤ lw.length := List.length_filterMap_le ..
theorem placesW_len {hs : List Int} : (placesW hs).length ≤ hs.length := List.length_filterMap_le ..
def fltL (b1 b2 b3 b4 : Bool) : List V := (if b1 then [V.str "stray"] else []) ++ ((if b2 then [V.str "book"] else []) ++ ((if b3 then [V.str "room"] else []) ++ if b4 then [V.str "age"] else []))
theorem eqv_ints : ∀ {a b : List Int}, PyData.eqv (.list (a.map PyData.int)) (.list (b.map PyData.int)) = decide (a = b)
  | [], [] => rfl
  | [], _ :: _ => rfl
  | _ :: _, [] => rfl
  | x :: a, y :: b => by
    show ((x == y) && PyData.eqv (.list (a.map PyData.int)) (.list (b.map PyData.int))) = _
    rw [eqv_ints, Bool.eq_iff_iff, Bool.and_eq_true, decide_eq_true_iff, decide_eq_true_iff, beq_iff_eq, List.cons.injEq]
theorem natI_mem {ps : List Nat} {x : Int} : x ∈ ps.map (fun p : Nat => (p : Int)) ↔ ∃ p ∈ ps, (p : Int) = x := List.mem_map
theorem pw_map {α β : Type} {R : β → β → Prop} {f : α → β} {l : List α} : (l.map f).Pairwise R ↔ l.Pairwise fun a b => R (f a) (f b) := List.pairwise_map
theorem dueT_mem {ws : List Int} {ys : List Nat} {p t : Nat} {x : Int} (h : x ∈ dueT ws ys p t) : ∃ s, s < t ∧ x = ((p + 1 + s : Nat) : Int) := by
  obtain ⟨s, ms, e⟩ := List.mem_filterMap.mp h
  refine ⟨s, List.mem_range.mp ms, ?_⟩
  split at e
  · split at e
    · exact (Option.some.inj e).symm
    · cases e
  · cases e
theorem dueT_up {ws : List Int} {ys : List Nat} {p : Nat} : ∀ {t : Nat}, (dueT ws ys p t).Pairwise (· < ·)
  | 0 => .nil
  | t + 1 => by
    rw [dueT_succ]
    refine List.pairwise_append.mpr ⟨dueT_up, ?_, fun a ma b mb => ?_⟩
    · split
      · split
        · exact List.pairwise_singleton _ _
        · exact .nil
      · exact .nil
    · obtain ⟨s, hs, rfl⟩ := dueT_mem ma
      split at mb
      · split at mb
        · rw [List.mem_singleton.mp mb]
          omega
        · exact (List.not_mem_nil mb).elim
      · exact (List.not_mem_nil mb).elim
theorem Tile.due_up {ws : List Int} {t p : Nat} {os ys : List Nat} (c : Tile ws t p os) : (dueP ws os ys).Pairwise (· < ·) ∧ ∀ x ∈ dueP ws os ys, (p : Int) < x := by
  induction c with
  | nil => exact ⟨.nil, fun x m => (List.not_mem_nil m).elim⟩
  | @cons p ps h w c ih =>
    obtain ⟨i1, i2⟩ := ih
    have e : dueP ws (p :: ps) ys = dueT ws ys p (wAt ws p - 1) ++ dueP ws ps ys := rfl
    rw [e]
    refine ⟨List.pairwise_append.mpr ⟨dueT_up, i1, fun a ma b mb => ?_⟩, fun x m => ?_⟩
    · obtain ⟨s, hs, rfl⟩ := dueT_mem ma
      have := i2 b mb
      omega
    · rcases List.mem_append.mp m with m | m
      · obtain ⟨s, hs, rfl⟩ := dueT_mem m
        omega
      · have := i2 x m
        omega
/-- a rising list is told by what is in it -/
theorem rise_eq : ∀ {a b : List Int}, a.Pairwise (· < ·) → b.Pairwise (· < ·) → (∀ x, x ∈ a ↔ x ∈ b) → a = b
  | [], [], _, _, _ => rfl
  | [], y :: b, _, _, h => ((List.not_mem_nil) ((h y).mpr List.mem_cons_self)).elim
  | x :: a, [], _, _, h => ((List.not_mem_nil) ((h x).mp List.mem_cons_self)).elim
  | x :: a, y :: b, ha, hb, h => by
    obtain ⟨h1, h2⟩ := List.pairwise_cons.mp ha
    obtain ⟨h3, h4⟩ := List.pairwise_cons.mp hb
    have e : x = y := by
      rcases List.mem_cons.mp ((h x).mp List.mem_cons_self) with e | m
      · exact e
      · rcases List.mem_cons.mp ((h y).mpr List.mem_cons_self) with e | m2
        · exact e.symm
        · have := h3 x m
          have := h1 y m2
          omega
    subst e
    rw [rise_eq h2 h4 fun z => ⟨fun m => ?_, fun m => ?_⟩]
    · rcases List.mem_cons.mp ((h z).mp (List.mem_cons_of_mem _ m)) with e | m2
      · have := h1 z m
        omega
      · exact m2
    · rcases List.mem_cons.mp ((h z).mpr (List.mem_cons_of_mem _ m)) with e | m2
      · have := h3 z m
        omega
      · exact m2
structure FaS (H : Hp) (l1 l2 p : Addr) (X Y : List V) (Hy : Hp) (zs : List V) : Prop where
  s : Same H Hy
  a : Hy l1 = some (.lst X)
  b : Hy l2 = some (.lst Y)
  c : Hy p = some (.lst zs)
theorem FaS.same {H l1 l2 p X Y Hy Hz zs} (F : FaS H l1 l2 p X Y Hy zs) (s : Same Hy Hz) : FaS H l1 l2 p X Y Hz zs := ⟨F.s.trans s, s _ _ F.a, s _ _ F.b, s _ _ F.c⟩
theorem FaS.app {K : PySem.W.Frag} {H l1 l2 p X Y Hy zs} {z : V} {Q : VK} (F : FaS H l1 l2 p X Y Hy zs) (np : H p = none) (n1 : l1 ≠ p) (n2 : l2 ≠ p) (hz : zs.length ≤ 10) (k : ∀ Hz, FaS H l1 l2 p X Y Hz (zs ++ [z]) → Q .non Hz) : tyV K "list" (.ref p) Hy ∧ rAppend (.ref p) [z] Hy Q :=
  ⟨.inl ⟨rfl, _, .of F.c⟩, p, zs, z, rfl, rfl, F.c, by rw [sizeLine_eq]; omega, k _ ⟨fun b o g => (upd_ne (ne_of_none g np)).trans (F.s _ _ g), (upd_ne n1).trans F.a, (upd_ne n2).trans F.b, upd_same⟩⟩
theorem beq2 {k : Nat} : ((k : Int) == 2) = decide (k = 2) := by
  rw [Bool.eq_iff_iff, beq_iff_eq, decide_eq_true_iff]
  omega
theorem agAt_of {ws : List Int} {p k : Nat} (e : headAt (ws.getD p 0) = some k) : agAt ws p = k % 4 := by
  unfold agAt
  rw [e]
theorem up_of {ns : List Int} (h : ns.Pairwise (· ≤ ·)) (nd : ns.Nodup) : ns.Pairwise (· < ·) := (h.and nd).imp fun {a b} q => by omega
def sp_words_at (K : PySem.W.Frag) : Sp := fun vs H Q _ => ∃ m dx l ws, ∃ p : Nat, vs = [.ref m, .int p] ∧ MemO K H m dx l ws ∧ Vw ws ∧ p < ws.length ∧ ∀ H', Same H H' → Q (.int (wAt ws p : Int)) H'
def sp_walked (K : PySem.W.Frag) : Sp := fun vs H Q _ => ∃ m dx l ws s sx b e t, vs = [.ref m, .ref s] ∧ MemO K H m dx l ws ∧ Vw ws ∧ SpO K H s sx b e t ∧ t ≤ ws.length ∧ optN (walkL ws t b) H Q
def sp_told_places (K : PySem.W.Frag) : Sp := fun vs H Q _ => ∃ m dx l ws R T c cs, vs = [.ref m, .ref R.r, .ref c] ∧ MemO K H m dx l ws ∧ Vw ws ∧ ws.length ≤ 5000 ∧ RootO K H R T ∧ T.ts.length < 1000000 ∧ (∀ t ∈ T.ts, flatN t = true) ∧ T.ws.length < 1000000 ∧ T.hs.length ≤ 100 ∧
  H c = some (.lst ((cs.map fun p : Nat => (p : Int)).map V.int)) ∧ cs.length ≤ 5000 ∧ (∀ p ∈ cs, p + wAt ws p ≤ ws.length ∧ wAt ws p ≠ 0) ∧ ∀ l H', H l = none → Same H H' → H' l = some (.lst ((toldP ws T.hs T.ts T.ws cs).map V.int)) → Q (.ref l) H'
def sp_due_places (K : PySem.W.Frag) : Sp := fun vs H Q _ => ∃ m dx l ws c os d ys, vs = [.ref m, .ref c, .ref d] ∧ MemO K H m dx l ws ∧ Vw ws ∧ ws.length ≤ 5000 ∧ H c = some (.lst ((os.map fun p : Nat => (p : Int)).map V.int)) ∧ H d = some (.lst ((ys.map fun p : Nat => (p : Int)).map V.int)) ∧
  os.length ≤ 5000 ∧ (∀ p ∈ os, p + wAt ws p ≤ ws.length ∧ wAt ws p ≠ 0) ∧ ∀ l H', H l = none → Same H H' → H' l = some (.lst ((dueP ws os ys).map V.int)) → Q (.ref l) H'
def sp_faults (K : PySem.W.Frag) : Sp := fun vs H Q _ => ∃ A S R T, vs = [.ref A.a, .ref R.r] ∧ ArO K H A S ∧ RootO K H R T ∧ T.ts.length < 1000000 ∧ (∀ t ∈ T.ts, flatN t = true) ∧ T.ws.length < 1000000 ∧ T.hs.length ≤ 100 ∧ T.bs.length < 1000000 ∧
  (((walkL S.ws S.ot 0 = none ∨ walkL S.ws (S.t S.fl) (S.b S.fl) = none) ∧ ∀ l H', H l = none → Same H H' → H' l = some (.lst [.str "walk"]) → Q (.ref l) H') ∨
  ∃ os ys b1 b2 b4, walkL S.ws S.ot 0 = some os ∧ walkL S.ws (S.t S.fl) (S.b S.fl) = some ys ∧ (b1 = true ↔ ∃ x ∈ toldP S.ws T.hs T.ts T.ws (os ++ ys), ∀ p ∈ os ++ ys, (p : Int) ≠ x) ∧ (b2 = false ↔ ∀ x, x ∈ T.bs ↔ x ∈ dueP S.ws os ys) ∧
    (b4 = true ↔ (∃ p ∈ os, agAt S.ws p ≠ 2) ∨ ∃ p ∈ ys, agAt S.ws p = 2) ∧ ∀ l H', H l = none → Same H H' → H' l = some (.lst (fltL b1 b2 (decide ((S.n : Int) < (S.ot : Int) + ((S.t S.fl : Int) - S.b S.fl))) b4)) → Q (.ref l) H')
section
variable {P : Program} {w : World} {K : PySem.W.Frag} {mg : Str → Option Value} {base : Heap}
theorem f_words_at (T : Tx K mg) : Fn P w K mg base 7 "words_at" ["memory", "at"] (sp_words_at K) := by
  have c_words_of := f_words_of (P := P) (w := w) (base := base) T
  refine T.mkFn 15 35 (d := d_words_at) (N := ["memory", "at"]) (k := 6) rfl rfl rfl rfl rfl sc_words_at (fun _ _ _ _ _ _ us hl => match us, hl with | [_, _], _ => rfl) (fun vs H Q E h => ?len) (fun cdv A outer s H vs Q E hr h => ⟨_,
      (pss_one (ps_try_many rfl rfl (takes_of rfl rfl rfl rfl) (fun W pn xe tk po => (pss_one (ps_ret (pe_fn tk c_words_of (hr.mono (by decide)) (by rfl) (pa_cons (pv 0) (pa_cons (pv 1) pa_nil)))))) (.cons ⟨by rfl, by decide, Or.inl (T.glo 0)⟩ (fun a oe cls d pn hz hf => (pss_one (ps_ret pe_int))) .nil))), ?rd⟩)
  case len => obtain ⟨_, _, _, _, _, rfl, _⟩ := h; rfl
  case rd =>
    obtain ⟨m, dx, l, ws, p, rfl, M, vw, hp, q⟩ := h
    walk_at "w3"
    refine ⟨m, dx, l, ws, _, rfl, M, vw, .inl ⟨_, rfl⟩, ?_⟩
    have q := q _ (Same.refl _)
    unfold wAt at q
    cases e : headAt (ws.getD p 0) with
    | none =>
      rw [e] at q
      have eH : headW ws (.int (p : Int)) = .noCell := by
        unfold headW
        rw [placeOf_int, if_pos ⟨by omega, by omega⟩, Int.toNat_natCast]
        dsimp only
        rw [e]
      rw [eH]
      dsimp only
      refine T.caughtU (by decide +kernel) (by decide +kernel) (by decide +kernel) fun a ha => ?_
      walk_at "w3"
      exact q
    | some k =>
      rw [e] at q
      rw [ans_head' hp e]
      exact q
theorem f_walked (T : Tx K mg) : Fn P w K mg base 8 "walked" ["memory", "space"] (sp_walked K) := by
  have c_words_at := f_words_at (P := P) (w := w) (base := base) T
  refine T.mkFn 16 36 (d := d_walked) (N := ["memory", "space", "found", "at", "many"]) (k := 7) rfl rfl rfl rfl rfl sc_walked (fun _ _ _ _ _ _ us hl => match us, hl with | [_, _], _ => rfl) (fun vs H Q E h => ?len) (fun cdv A outer s H vs Q E hr h => ⟨_,
      (pss_cons (ps_set (i := 2) sc_walked.nd rfl (Or.inl rfl) (pe_lst pa_nil))
        (pss_cons (ps_set (i := 3) sc_walked.nd rfl (Or.inl rfl) (pe_fldC (T.cls 90) (T.noat 99) (pv 1)))
        (pss_cons (ps_while (passes_of rfl) (pt_cmpR op_lt (pv 3) (pe_fldC (T.cls 90) (T.noat 101) (pv 1)) (nomark _)) (pss_cons (ps_set (i := 4) sc_walked.nd rfl (Or.inl rfl) (pe_fn (takes_of rfl rfl rfl rfl) c_words_at (hr.mono (by decide)) (by rfl) (pa_cons (pv 0) (pa_cons (pv 3) pa_nil))))
        (pss_cons (ps_if (pt_cmpR (op_eqK (K := K) rfl hr.units) (pv 4) pe_int (nomark _)) (pss_one (ps_ret pe_non)) pss_nil)
        (pss_cons (ps_expr (pe_bm PySem.F.plainAttrs_list PySem.F.slot_list_append PySem.F.type_list_append mt_append (pv 2) (pa_cons (pv 3) pa_nil)))
        (pss_one (ps_set (i := 3) sc_walked.nd rfl (Or.inl rfl) (pe_op op_gAdd (pv 3) (pv 4))))))))
        (pss_one (ps_ret (pe_ifExp (pt_cmpR (op_eqK (K := K) rfl hr.units) (pv 3) (pe_fldC (T.cls 90) (T.noat 101) (pv 1)) (nomark _)) (pv 2) pe_non)))))), ?rd⟩)
  case len => obtain ⟨_, _, _, _, _, _, _, _, _, rfl, _⟩ := h; rfl
  case rd =>
    obtain ⟨m, dx, l, ws, s, sx, b, e, t, rfl, M, vw, So, tl, q⟩ := h
    have sz : 10000000 ≤ sizeLine := by rw [sizeLine_eq]; omega
    have hz := M.sz
    walk_at "w3"
    refine ⟨by omega, fun p np => ?_⟩
    have s1 := same_new (o := .lst []) np
    refine ⟨_, fldIs (s1 _ _ So), ?_⟩
    walk_at "w3"
    refine whW (fun k σ H' => ∃ (i : Nat) (dn : List Nat) (o4 : Option V), σ = [some (.ref m), some (.ref s), some (.ref p), some (.int (i : Int)), o4] ∧ k = t - i ∧ dn.length ≤ i ∧ walkL ws t b = (walkL ws t i).map (dn ++ ·) ∧ Same H H' ∧ H' p = some (.lst ((dn.map fun x : Nat => (x : Int)).map V.int))) ⟨_, b, [], _, rfl, rfl, Nat.zero_le _, by cases walkL ws t b <;> rfl, s1, upd_same⟩ ?_
    rintro k σ H' ⟨i, dn, o4, rfl, rfl, dl, ew, s', hp'⟩
    walk_at "w3"
    refine ⟨_, fldIs (s' _ _ So), ?_⟩
    walk_at "w3"
    by_cases c : i < t
    · rw [if_pos (by omega)]
      refine whB ?_
      walk_at "w3"
      refine ⟨m, dx, l, ws, i, rfl, M.same s', vw, by omega, fun H2 s2 => ?_⟩
      walk_at "w3"
      by_cases w0 : wAt ws i = 0
      · rw [if_pos (by omega)]
        rw [walkL_no c w0] at ew
        have ew : walkL ws t b = none := ew
        rw [ew] at q
        exact q H2 (s'.trans s2)
      · rw [if_neg (by omega)]
        have hp2 := s2 _ _ hp'
        refine r_app hp2 (by rw [List.length_map, List.length_map]; omega) ?_
        walk_at "w3"
        have s3 : Same H (upd H2 p (.lst ((dn.map fun x : Nat => (x : Int)).map V.int ++ [.int (i : Int)]))) := fun c o g => by
          rw [upd_ne (ne_of_none g np)]
          exact s2 _ _ (s' _ _ g)
        have ei : (i : Int) + (wAt ws i : Int) = ((i + wAt ws i : Nat) : Int) := by omega
        rw [ei]
        refine ⟨t - (i + wAt ws i), by omega, _, dn ++ [i], _, rfl, rfl, by rw [List.length_append]; show dn.length + 1 ≤ _; omega, ?_, s3, by rw [upd_same, List.map_append, List.map_append]; rfl⟩
        rw [ew, walkL_go c w0]
        cases walkL ws t (i + wAt ws i) with
        | none => rfl
        | some qs =>
          show some (dn ++ (i :: qs)) = some ((dn ++ [i]) ++ qs)
          rw [List.append_assoc]
          rfl
    · rw [if_neg (by omega)]
      walk_at "w3"
      refine ⟨_, fldIs (s' _ _ So), ?_⟩
      walk_at "w3"
      by_cases c2 : i = t
      · rw [if_pos (by omega)]
        subst c2
        rw [walkL_end] at ew
        have ew : walkL ws i b = some (dn ++ []) := ew
        rw [List.append_nil] at ew
        rw [ew] at q
        exact q p H' np s' hp'
      · rw [if_neg (by omega)]
        rw [walkL_over (show t < i by omega)] at ew
        have ew : walkL ws t b = none := ew
        rw [ew] at q
        exact q H' s'
theorem f_told_places (T : Tx K mg) : Fn P w K mg base 7 "told_places" ["memory", "roots", "cells"] (sp_told_places K) := by
  have c_Roots_starts := f_Roots_starts (P := P) (w := w) (base := base) T
  have c_children := f_children (P := P) (w := w) (base := base) T
  have c_Weak_names := f_Weak_names (P := P) (w := w) (base := base) T
  have c_Lasts_pending := f_Lasts_pending (P := P) (w := w) (base := base) T
  refine T.mkFn 17 37 (d := d_told_places) (N := ["memory", "roots", "cells", "found", "at", "pair", "one"]) (k := 6) rfl rfl rfl rfl rfl sc_told_places (fun _ _ _ _ _ _ us hl => match us, hl with | [_, _, _], _ => rfl) (fun vs H Q E h => ?len) (fun cdv A outer s H vs Q E hr h => ⟨_,
      (pss_cons (ps_set (i := 3) sc_told_places.nd rfl (Or.inl rfl) (pe_mt0 (K := K) rfl (takes_of rfl rfl rfl rfl) (pv 1) c_Roots_starts (hr.mono (by decide))))
        (pss_cons (ps_for (passes_of rfl) rfl (pi_listK (K := K) rfl (pv 2)) (pg_name (i := 4) sc_told_places.nd rfl (Or.inl rfl)) (pss_one (ps_expr (pe_bm PySem.F.plainAttrs_list PySem.F.slot_list_extend PySem.F.type_list_extend mt_extend (pv 3) (pa_cons (pe_fn (takes_of rfl rfl rfl rfl) c_children (hr.mono (by decide)) (by rfl) (pa_cons (pv 0) (pa_cons (pv 4) pa_nil))) pa_nil)))))
        (pss_cons (ps_expr (pe_bm PySem.F.plainAttrs_list PySem.F.slot_list_extend PySem.F.type_list_extend mt_extend (pv 3) (pa_cons (pe_lc (own := [("pair", 5)]) (g := gName 5) rfl sc_told_places.nd (pi_listK (K := K) rfl (pe_mt0 (K := K) rfl (takes_of rfl rfl rfl rfl) (pe_fldC (T.cls 147) (T.noat 152) (pv 1)) c_Weak_names (hr.mono (by decide)))) (blkOk_by (own := [("pair", 5)]) (N := ["memory", "roots", "cells", "found", "at", "pair", "one"]) (sc := defScope s_told_places) (by decide +kernel)) (fun _ _ _ _ _ => (pg_name (i := 5) sc_told_places.nd rfl (Or.inl rfl))) (fun _ _ _ _ _ => pts_nil) (fun _ _ _ _ _ => (pe_ix (ix_seqK (K := K) rfl) (pv 5) pe_int (fun _ _ => rfl)))) pa_nil)))
        (pss_cons (ps_expr (pe_bm PySem.F.plainAttrs_list PySem.F.slot_list_extend PySem.F.type_list_extend mt_extend (pv 3) (pa_cons (pe_lc (own := [("one", 6)]) (g := gName 6) rfl sc_told_places.nd (pi_listK (K := K) rfl (pe_mt0 (K := K) rfl (takes_of rfl rfl rfl rfl) (pe_fldC (T.cls 147) (T.noat 153) (pv 1)) c_Lasts_pending (hr.mono (by decide)))) (blkOk_by (own := [("one", 6)]) (N := ["memory", "roots", "cells", "found", "at", "pair", "one"]) (sc := defScope s_told_places) (by decide +kernel)) (fun _ _ _ _ _ => (pg_name (i := 6) sc_told_places.nd rfl (Or.inl rfl))) (fun _ _ _ _ _ => pts_nil) (fun _ _ _ _ _ => (pe_ix (ix_seqK (K := K) rfl) (pv 6) pe_int (fun _ _ => rfl)))) pa_nil)))
        (pss_one (ps_ret (pv 3))))))), ?rd⟩)
  case len => obtain ⟨_, _, _, _, _, _, _, _, rfl, _⟩ := h; rfl
  case rd =>
    obtain ⟨m, dx, l, ws, R, T', c, cs, rfl, M, vw, wl, Ro, tl, fl, lwl, hsl, hc, cl, ck, q⟩ := h
    have sz : 10000000 ≤ sizeLine := by rw [sizeLine_eq]; omega
    walk_at "w3"
    refine ⟨recv Ro.ob, R.r, R.rx, R.h, R.hx, R.hl, T'.hs, _, _, _, rfl, Ro.ob, Ro.ho, fun p H1 np s1 hp => ?_⟩
    have pl : (placesW T'.hs).length ≤ 100 := Nat.le_trans (placesW_len) hsl
    refine ⟨⟨_, .of (s1 _ _ hc)⟩, forW_list (xs := (cs.map fun p : Nat => (p : Int)).map V.int) (fun i σ H' => ∃ o4, σ = [some (.ref m), some (.ref R.r), some (.ref c), some (.ref p), o4, none, none] ∧ Same H H' ∧ H' p = some (.lst ((placesW T'.hs ++ ((cs.take i).map (kidsP ws)).flatten).map V.int))) ⟨_, rfl, s1, by rw [List.take_zero]; show H1 p = some (.lst ((placesW T'.hs ++ []).map V.int)); rw [List.append_nil]; exact hp⟩ ?_ ?_ ?_⟩
    · rintro i σ H' _ ⟨o4, rfl, s', -⟩
      exact .of (s' _ _ hc)
    · rintro i x σ H' hx ⟨o4, rfl, s', hp'⟩
      obtain ⟨n, en, rfl⟩ := nats_at hx
      obtain ⟨k1, k2⟩ := ck n (List.mem_of_getElem? en)
      have il := (List.getElem?_eq_some_iff.mp en).1
      have fl := kids_sum (ws := ws) (cs := cs.take i)
      have tl := List.length_take (l := cs) (i := i)
      walk_at "w3"
      refine ⟨.inl ⟨rfl, _, .of hp'⟩, m, dx, l, ws, _, rfl, M.same s', vw, .inl ⟨_, rfl⟩, ?_⟩
      obtain ⟨h, eh, ew⟩ := wAt_head (ws := ws) (p := n) k2
      rw [ans_head' (by omega) eh]
      dsimp only
      refine ⟨by omega, fun r H2 nr s2 hr => ?_⟩
      have hp2 := s2 _ _ hp'
      refine ⟨p, r, _, _, rfl, rfl, hp2, hr, ?_, _, rfl, fun b o g => (upd_ne (ne_of_none g np)).trans (s2 _ _ (s' _ _ g)), ?_⟩
      · have := kidsT_len (ws := ws) (i := n) (t := h / 4)
        rw [List.length_map, List.length_map, List.length_append]
        omega
      · have e5 : placesW T'.hs ++ ((cs.take (i + 1)).map (kidsP ws)).flatten = placesW T'.hs ++ ((cs.take i).map (kidsP ws)).flatten ++ kidsT ws n (h / 4) := by
          rw [List.take_add_one, en, List.append_assoc]
          show _ ++ ((cs.take i ++ [n]).map (kidsP ws)).flatten = _
          rw [List.map_append, List.flatten_append]
          show _ ++ (_ ++ (kidsT ws n (wAt ws n - 1) ++ [])) = _
          rw [List.append_nil, show wAt ws n - 1 = h / 4 from by omega]
        rw [upd_same, e5, List.map_append (l₁ := placesW T'.hs ++ ((cs.take i).map (kidsP ws)).flatten)]
    rintro σ H2 ⟨o4, rfl, s2, hp2⟩
    rw [List.length_map, List.length_map, List.take_length] at hp2
    have Ro2 := Ro.same s2
    walk_at "w3"
    refine ⟨.inl ⟨rfl, _, .of hp2⟩, _, fldIs Ro2.ob, recv Ro2.wo.ob, R.w, R.wx, R.wl, T'.ts, rfl, Ro2.wo, tl, fl, fun r rs H3 nr s3 hr tr => ?_⟩
    have nl := namesI_len (ts := T'.ts)
    have ll := lastsI_len (lw := T'.ws)
    obtain ⟨ql, qa⟩ := pairs_at fl (k := 0)
    have trl := tr.len
    dsimp only
    refine ⟨r, rfl, ⟨_, .of hr⟩, fun D nD => ?_⟩
    refine lc_mapL (xs := rs) (ys := (namesI T'.ts).map V.int) (fun _ => rfl) (fun acc => .of ((upd_ne (ne_of_none hr nD)).trans hr)) (by omega) (by rw [List.length_map]; omega) (fun i x y hx hy acc Q2 q2 => ?_) ?_
    · obtain ⟨tp, xs, rfl, htp, ex⟩ := tups_at tr hx
      obtain ⟨a1, n1, rfl, en⟩ := qa i xs ex
      rw [List.getElem?_map, en] at hy
      cases hy
      walk_at "w3"
      exact r_ixT (i := 1) ((upd_ne (ne_of_none htp nD)).trans htp) rfl q2
    have s4 := same_new (o := .lst ((namesI T'.ts).map V.int)) nD
    have s24 := s3.trans s4
    have hp4 := s24 _ _ hp2
    have gs := kids_sum (ws := ws) (cs := cs)
    refine ⟨p, D, _, _, rfl, rfl, hp4, upd_same, by rw [List.length_map, List.length_map, List.length_append]; omega, ?_⟩
    have s05 : Same H (upd (upd H3 D (.lst ((namesI T'.ts).map V.int))) p (.lst ((placesW T'.hs ++ (cs.map (kidsP ws)).flatten).map V.int ++ (namesI T'.ts).map V.int))) := fun b o g => (upd_ne (ne_of_none g np)).trans (s24 _ _ (s2 _ _ g))
    have hp5 : upd (upd H3 D (.lst ((namesI T'.ts).map V.int))) p (.lst ((placesW T'.hs ++ (cs.map (kidsP ws)).flatten).map V.int ++ (namesI T'.ts).map V.int)) p = some (.lst ((placesW T'.hs ++ (cs.map (kidsP ws)).flatten ++ namesI T'.ts).map V.int)) := by rw [upd_same, ← List.map_append]
    generalize upd (upd H3 D (.lst ((namesI T'.ts).map V.int))) p (.lst ((placesW T'.hs ++ (cs.map (kidsP ws)).flatten).map V.int ++ (namesI T'.ts).map V.int)) = H5 at s05 hp5 ⊢
    have Ro5 := Ro.same s05
    refine ⟨.inl ⟨rfl, _, .of hp5⟩, _, fldIs Ro5.ob, recv Ro5.lo.ob, R.la, R.lax, R.d, R.e, T'.rs, T'.ws, T'.ss, rfl, Ro5.lo, lwl, fun r2 rs2 H6 nr2 s6 hr2 tr2 => ?_⟩
    obtain ⟨ql2, qa2⟩ := pend_at (lw := T'.ws) (k := 0)
    have trl2 := tr2.len
    refine ⟨r2, rfl, ⟨_, .of hr2⟩, fun D2 nD2 => ?_⟩
    refine lc_mapL (xs := rs2) (ys := (lastsI T'.ws).map V.int) (fun _ => rfl) (fun acc => .of ((upd_ne (ne_of_none hr2 nD2)).trans hr2)) (by omega) (by rw [List.length_map]; omega) (fun i x y hx hy acc Q2 q2 => ?_) ?_
    · obtain ⟨tp, xs, rfl, htp, ex⟩ := tups_at tr2 hx
      obtain ⟨a1, n1, b1, rfl, en⟩ := qa2 i xs ex
      rw [List.getElem?_map, en] at hy
      cases hy
      walk_at "w3"
      exact r_ixT (i := 1) ((upd_ne (ne_of_none htp nD2)).trans htp) rfl q2
    have s7 := s6.trans (same_new (o := .lst ((lastsI T'.ws).map V.int)) nD2)
    refine ⟨p, D2, _, _, rfl, rfl, s7 _ _ hp5, upd_same, by rw [List.length_map, List.length_map, List.length_append, List.length_append]; omega, ?_⟩
    refine q p _ np (fun b o g => (upd_ne (ne_of_none g np)).trans (s7 _ _ (s05 _ _ g))) ?_
    rw [upd_same, ← List.map_append]
    rfl
theorem f_due_places (T : Tx K mg) : Fn P w K mg base 6 "due_places" ["memory", "olds", "youngs"] (sp_due_places K) := by
  have c_slots_of := f_slots_of (P := P) (w := w) (base := base) T
  have c_Memory_read := f_Memory_read (P := P) (w := w) (base := base) T
  have c_worth := f_worth (P := P) (w := w) (base := base) T
  have c_kind := f_kind (P := P) (w := w) (base := base) T
  refine T.mkFn 18 38 (d := d_due_places) (N := ["memory", "olds", "youngs", "found", "at", "slot", "word"]) (k := 5) rfl rfl rfl rfl rfl sc_due_places (fun _ _ _ _ _ _ us hl => match us, hl with | [_, _, _], _ => rfl) (fun vs H Q E h => ?len) (fun cdv A outer s H vs Q E hr h => ⟨_,
      (pss_cons (ps_set (i := 3) sc_due_places.nd rfl (Or.inl rfl) (pe_lst pa_nil))
        (pss_cons (ps_for (passes_of rfl) rfl (pi_listK (K := K) rfl (pv 1)) (pg_name (i := 4) sc_due_places.nd rfl (Or.inl rfl)) (pss_one (ps_for (passes_of rfl) rfl (pi_range1 rfl (T.free 61) (pa_cons (pe_fn (takes_of rfl rfl rfl rfl) c_slots_of (hr.mono (by decide)) (by rfl) (pa_cons (pv 0) (pa_cons (pv 4) pa_nil))) pa_nil)) (pg_name (i := 5) sc_due_places.nd rfl (Or.inl rfl)) (pss_cons (ps_set (i := 6) sc_due_places.nd rfl (Or.inl rfl) (pe_mt (K := K) rfl (takes_of rfl rfl rfl rfl) (pv 0) c_Memory_read (hr.mono (by decide)) (pa_cons (pe_op op_gAdd (pe_op op_gAdd (pv 4) pe_int) (pv 5)) pa_nil)))
        (pss_one (ps_if (PW.pt (pw_and (pt_cmpR (op_eqK (K := K) rfl hr.units) (pe_fn (takes_of rfl rfl rfl rfl) c_kind (hr.mono (by decide)) (by rfl) (pa_cons (pv 6) pa_nil)) pe_str (nomark _)) (pw_and1 (pt_cmpR (op_inK (K := K) rfl) (pe_fn (takes_of rfl rfl rfl rfl) c_worth (hr.mono (by decide)) (by rfl) (pa_cons (pv 6) pa_nil)) (pv 2) (by rfl))))) (pss_one (ps_expr (pe_bm PySem.F.plainAttrs_list PySem.F.slot_list_append PySem.F.type_list_append mt_append (pv 3) (pa_cons (pe_op op_gAdd (pe_op op_gAdd (pv 4) pe_int) (pv 5)) pa_nil)))) pss_nil))))))
        (pss_one (ps_ret (pv 3))))), ?rd⟩)
  case len => obtain ⟨_, _, _, _, _, _, _, _, rfl, _⟩ := h; rfl
  case rd =>
    obtain ⟨m, dx, l, ws, c, os, d, ys, rfl, M, vw, wl, hc, hd, ol, ok, q⟩ := h
    have sz : 10000000 ≤ sizeLine := by rw [sizeLine_eq]; omega
    walk_at "w3"
    refine ⟨by omega, fun p np => ?_⟩
    have s1 := same_new (o := .lst []) np
    refine ⟨⟨_, .of (s1 _ _ hc)⟩, forW_list (xs := (os.map fun p : Nat => (p : Int)).map V.int) (fun i σ H' => ∃ o4 o5 o6, σ = [some (.ref m), some (.ref c), some (.ref d), some (.ref p), o4, o5, o6] ∧ Same H H' ∧ H' p = some (.lst ((dueP ws (os.take i) ys).map V.int))) ⟨_, _, _, rfl, s1, upd_same⟩ ?_ ?_ ?_⟩
    · rintro i σ H' _ ⟨o4, o5, o6, rfl, s', -⟩
      exact .of (s' _ _ hc)
    · rintro i x σ H' hx ⟨o4, o5, o6, rfl, s', hp'⟩
      obtain ⟨n, en, rfl⟩ := nats_at hx
      obtain ⟨k1, k2⟩ := ok n (List.mem_of_getElem? en)
      have il := (List.getElem?_eq_some_iff.mp en).1
      have fl := due_len (ws := ws) (os := os.take i) (ys := ys)
      have tl := List.length_take (l := os) (i := i)
      walk_at "w3"
      obtain ⟨h, eh, ew⟩ := wAt_head (ws := ws) (p := n) k2
      have w9 := wAt_le (ws := ws) (p := n)
      refine ⟨m, dx, l, ws, _, rfl, M.same s', vw, .inl ⟨_, rfl⟩, ?_⟩
      rw [ans_head' (by omega) eh]
      dsimp only
      walk_at "w3"
      refine ⟨by omega, by omega, ?_⟩
      rw [Int.toNat_natCast]
      refine forW_range (fun t σ H2 => ∃ o5 o6, σ = [some (.ref m), some (.ref c), some (.ref d), some (.ref p), some (.int (n : Int)), o5, o6] ∧ Same H H2 ∧ H2 p = some (.lst ((dueP ws (os.take i) ys ++ dueT ws ys n t).map V.int))) ⟨_, _, rfl, s', by show H' p = some (.lst ((dueP ws (os.take i) ys ++ []).map V.int)); rw [List.append_nil]; exact hp'⟩ ?_ ?_
      · rintro t σ H2 ht ⟨o5, o6, rfl, s2, hp2⟩
        walk_at "w3"
        rw [Int.zero_add, show (n : Int) + 1 + (t : Int) = ((n + 1 + t : Nat) : Int) from by omega]
        have M2 := M.same s2
        refine ⟨recv M2.ob, m, dx, l, ws, _, rfl, M2, .inl ⟨_, rfl⟩, ?_⟩
        rw [placeOf_int, if_pos ⟨by omega, by omega⟩, Int.toNat_natCast]
        dsimp only
        have dn := dueT_len (ws := ws) (ys := ys) (p := n) (t := t)
        have sc := dueT_succ (ws := ws) (ys := ys) (p := n) (t := t)
        obtain ⟨wd, ewd⟩ := Option.isSome_iff_exists.mp (Vw.at vw (i := n + 1 + t) (by omega))
        rw [x_kind, ewd]
        rw [ewd] at sc
        dsimp only
        have fin : ∀ o6 Hx, Same H Hx → Hx p = some (.lst ((dueP ws (os.take i) ys ++ dueT ws ys n (t + 1)).map V.int)) → ∃ o5 o6', [some (V.ref m), some (V.ref c), some (V.ref d), some (V.ref p), some (V.int (n : Int)), some (V.int (t : Int)), some o6] = [some (.ref m), some (.ref c), some (.ref d), some (.ref p), some (.int (n : Int)), o5, o6'] ∧ Same H Hx ∧ Hx p = some (.lst ((dueP ws (os.take i) ys ++ dueT ws ys n (t + 1)).map V.int)) := fun o6 Hx a b => ⟨_, _, rfl, a, b⟩
        cases wd with
        | place x =>
          dsimp only at sc
          walk_at "w3"
          simp only [k_nn, k_pn, k_Nn, k_np, k_Np, k_pp, not_true_eq_false, not_false_eq_true, if_true, if_false, ite_true, ite_false, Wd.worth]
          rw [x_worth, ewd]
          dsimp only
          have hp3 := hp2
          refine ⟨d, _, rfl, .inl (.of (s2 _ _ hd)), rfl, all_flat, ?_⟩
          rw [if_neg Bool.false_ne_true]
          dsimp only
          rw [show Wd.worth (.place x) = .int x from rfl, in_ints]
          walk_at "w3"
          by_cases cx : x ∈ ys.map (fun p : Nat => (p : Int))
          · rw [if_pos cx] at sc
            rw [if_pos cx]
            have tl2 := List.length_take (l := os) (i := i)
            refine ⟨.inl ⟨rfl, _, .of hp2⟩, p, _, _, rfl, rfl, hp2, by rw [List.length_map, List.length_append]; omega, _, _, rfl, fun b o g => (upd_ne (ne_of_none g np)).trans (s2 _ _ g), ?_⟩
            rw [upd_same, sc, ← List.append_assoc, List.map_append (l₁ := dueP ws (os.take i) ys ++ dueT ws ys n t)]
            rfl
          · rw [if_neg cx] at sc
            rw [if_neg cx]
            rw [List.append_nil] at sc
            exact ⟨_, _, rfl, s2, by rw [sc]; exact hp2⟩
        | num x =>
          walk_at "w3"
          simp only [k_nn, k_pn, k_Nn, k_np, k_Np, k_pp, not_true_eq_false, not_false_eq_true, if_true, if_false, ite_true, ite_false, Wd.worth]
          rw [List.append_nil] at sc
          exact ⟨_, _, rfl, s2, by rw [sc]; exact hp2⟩
        | nothing =>
          walk_at "w3"
          simp only [k_nn, k_pn, k_Nn, k_np, k_Np, k_pp, not_true_eq_false, not_false_eq_true, if_true, if_false, ite_true, ite_false, Wd.worth]
          rw [List.append_nil] at sc
          exact ⟨_, _, rfl, s2, by rw [sc]; exact hp2⟩
      · rintro σ H2 ⟨o5, o6, rfl, s2, hp2⟩
        refine ⟨_, _, _, rfl, s2, ?_⟩
        rw [hp2, show h / 4 = wAt ws n - 1 from by omega]
        congr 3
        unfold dueP
        rw [List.take_add_one, en, List.map_append, List.flatten_append]
        show _ = _ ++ (dueT ws ys n (wAt ws n - 1) ++ [])
        rw [List.append_nil]
    · rintro σ H' ⟨o4, o5, o6, rfl, s', hp'⟩
      rw [List.length_map, List.length_map, List.take_length] at hp'
      walk_at "w3"
      exact q p H' np s' hp'
theorem f_faults (T : Tx K mg) : Fn P w K mg base 9 "faults" ["areas", "roots"] (sp_faults K) := by
  have c_walked := f_walked (P := P) (w := w) (base := base) T
  have c_told_places := f_told_places (P := P) (w := w) (base := base) T
  have c_Book_places := f_Book_places (P := P) (w := w) (base := base) T
  have c_due_places := f_due_places (P := P) (w := w) (base := base) T
  have c_Space_used := f_Space_used (P := P) (w := w) (base := base) T
  have c_age_of := f_age_of (P := P) (w := w) (base := base) T
  refine T.mkFn 19 39 (d := d_faults) (N := ["areas", "roots", "memory", "olds", "youngs", "found", "at"]) (k := 8) rfl rfl rfl rfl rfl sc_faults (fun _ _ _ _ _ _ us hl => match us, hl with | [_, _], _ => rfl) (fun vs H Q E h => ?len) (fun cdv A outer s H vs Q E hr h => ⟨_,
      (pss_cons (ps_set (i := 2) sc_faults.nd rfl (Or.inr rfl) (pe_fldC (T.cls 102) (T.noat 108) (pv 0)))
        (pss_cons (ps_set (i := 3) sc_faults.nd rfl (Or.inr rfl) (pe_fn (takes_of rfl rfl rfl rfl) c_walked (hr.mono (by decide)) (by rfl) (pa_cons (pv 2) (pa_cons (pe_fldC (T.cls 102) (T.noat 109) (pv 0)) pa_nil))))
        (pss_cons (ps_set (i := 4) sc_faults.nd rfl (Or.inr rfl) (pe_fn (takes_of rfl rfl rfl rfl) c_walked (hr.mono (by decide)) (by rfl) (pa_cons (pv 2) (pa_cons (pe_fldC (T.cls 102) (T.noat 110) (pv 0)) pa_nil))))
        (pss_cut (ps_if (PW.pt (pw_or (pt_cmpR op_isN (pv 3) pe_non (nomark _)) (pw_or1 (pt_cmpR op_isN (pv 4) pe_non (nomark _))))) (pss_one (ps_ret (pe_lst (pa_cons pe_str pa_nil)))) pss_nil)
        (pss_cons (ps_set (i := 5) sc_faults.nd rfl (Or.inl rfl) (pe_lst pa_nil))
        (pss_cut (ps_if (pt_val (pe_callB (call_anyK (K := K) rfl rfl) (by rfl) (T.free 65) (by decide +kernel) (pa_cons (pe_lc (own := [("at", 6)]) (g := gName 6) rfl sc_faults.nd (pi_listK (K := K) rfl (pe_fn (takes_of rfl rfl rfl rfl) c_told_places (hr.mono (by decide)) (by rfl) (pa_cons (pv 2) (pa_cons (pv 1) (pa_cons (pe_op op_gAdd (pv 3) (pv 4)) pa_nil))))) (blkOk_by (own := [("at", 6)]) (N := ["areas", "roots", "memory", "olds", "youngs", "found", "at"]) (sc := defScope s_faults) (by decide +kernel)) (fun _ _ _ _ _ => (pg_name (i := 6) sc_faults.nd rfl (Or.inl rfl))) (fun _ _ _ _ _ => pts_nil) (fun _ _ _ _ _ => (pe_and (pe_cmpR (op_ninK (K := K) rfl) (pv 6) (pv 3) (by rfl)) (pe_one (pe_cmpR (op_ninK (K := K) rfl) (pv 6) (pv 4) (by rfl)))))) pa_nil))) (pss_one (ps_expr (pe_bm PySem.F.plainAttrs_list PySem.F.slot_list_append PySem.F.type_list_append mt_append (pv 5) (pa_cons pe_str pa_nil)))) pss_nil)
        (pss_cut (ps_if (pt_cmpR (op_neK (K := K) rfl hr.units) (pe_mt0 (K := K) rfl (takes_of rfl rfl rfl rfl) (pe_fldC (T.cls 147) (T.noat 151) (pv 1)) c_Book_places (hr.mono (by decide))) (pe_fn (takes_of rfl rfl rfl rfl) c_due_places (hr.mono (by decide)) (by rfl) (pa_cons (pv 2) (pa_cons (pv 3) (pa_cons (pv 4) pa_nil)))) (nomark _)) (pss_one (ps_expr (pe_bm PySem.F.plainAttrs_list PySem.F.slot_list_append PySem.F.type_list_append mt_append (pv 5) (pa_cons pe_str pa_nil)))) pss_nil)
        (pss_cut (ps_if (pt_cmpR op_gt (pe_op op_gAdd (pe_mt0 (K := K) rfl (takes_of rfl rfl rfl rfl) (pe_fldC (T.cls 102) (T.noat 109) (pv 0)) c_Space_used (hr.mono (by decide))) (pe_mt0 (K := K) rfl (takes_of rfl rfl rfl rfl) (pe_fldC (T.cls 102) (T.noat 110) (pv 0)) c_Space_used (hr.mono (by decide)))) (pe_op op_sub (pe_fldC (T.cls 90) (T.noat 100) (pe_fldC (T.cls 102) (T.noat 109) (pv 0))) (pe_fldC (T.cls 90) (T.noat 99) (pe_fldC (T.cls 102) (T.noat 109) (pv 0)))) (nomark _)) (pss_one (ps_expr (pe_bm PySem.F.plainAttrs_list PySem.F.slot_list_append PySem.F.type_list_append mt_append (pv 5) (pa_cons pe_str pa_nil)))) pss_nil)
        (pss_cut (ps_if (PW.pt (pw_or (pt_val (pe_callB (call_anyK (K := K) rfl rfl) (by rfl) (T.free 65) (by decide +kernel) (pa_cons (pe_lc (own := [("at", 6)]) (g := gName 6) rfl sc_faults.nd (pi_listK (K := K) rfl (pv 3)) (blkOk_by (own := [("at", 6)]) (N := ["areas", "roots", "memory", "olds", "youngs", "found", "at"]) (sc := defScope s_faults) (by decide +kernel)) (fun _ _ _ _ _ => (pg_name (i := 6) sc_faults.nd rfl (Or.inl rfl))) (fun _ _ _ _ _ => pts_nil) (fun _ _ _ _ _ => (pe_cmpR (op_neK (K := K) rfl hr.units) (pe_fn takes0 c_age_of (hr.mono (by decide)) (by rfl) (pa_cons (pv 2) (pa_cons (pv 6) pa_nil))) (pe_num (T.num 51) (by rfl)) (nomark _)))) pa_nil))) (pw_or1 (pt_val (pe_callB (call_anyK (K := K) rfl rfl) (by rfl) (T.free 65) (by decide +kernel) (pa_cons (pe_lc (own := [("at", 6)]) (g := gName 6) rfl sc_faults.nd (pi_listK (K := K) rfl (pv 4)) (blkOk_by (own := [("at", 6)]) (N := ["areas", "roots", "memory", "olds", "youngs", "found", "at"]) (sc := defScope s_faults) (by decide +kernel)) (fun _ _ _ _ _ => (pg_name (i := 6) sc_faults.nd rfl (Or.inl rfl))) (fun _ _ _ _ _ => pts_nil) (fun _ _ _ _ _ => (pe_cmpR (op_eqK (K := K) rfl hr.units) (pe_fn takes0 c_age_of (hr.mono (by decide)) (by rfl) (pa_cons (pv 2) (pa_cons (pv 6) pa_nil))) (pe_num (T.num 51) (by rfl)) (nomark _)))) pa_nil)))))) (pss_one (ps_expr (pe_bm PySem.F.plainAttrs_list PySem.F.slot_list_append PySem.F.type_list_append mt_append (pv 5) (pa_cons pe_str pa_nil)))) pss_nil)
        (pss_one (ps_ret (pv 5)))))))))))), ?rd⟩)
  case len => obtain ⟨_, _, _, _, rfl, _⟩ := h; rfl
  case rd =>
    obtain ⟨A, S, R, T', rfl, I, Ro, tl, fl, lwl, hsl, bl, h⟩ := h
    have sz : 10000000 ≤ sizeLine := by rw [sizeLine_eq]; omega
    have wz := I.me.sz
    have lo := I.lo
    have ln := I.ln
    have lt := I.lt S.fl
    have bk : S.b S.fl + S.k ≤ S.n + 2 * S.k := by unfold ArS.b; split <;> omega
    walk_at "w3"
    refine ⟨_, fldIs I.ob, _, fldIs I.ob, A.m, A.mx, A.l, S.ws, A.o, A.ox, 0, S.n, S.ot, rfl, I.me, I.vw, I.so, by omega, ?_⟩
    have walk2 : ∀ (H1 : Hp) (s1 : Same H H1) (Q2 : VK), optN (walkL S.ws (S.t S.fl) (S.b S.fl)) H1 Q2 → sp_walked K [.ref A.m, .ref (A.y S.fl)] H1 Q2 E := fun H1 s1 Q2 h => ⟨A.m, A.mx, A.l, S.ws, A.y S.fl, A.yx S.fl, S.b S.fl, S.b S.fl + S.k, S.t S.fl, rfl, (I.same s1).me, I.vw, (I.same s1).half S.fl, by omega, h⟩
    cases e1 : walkL S.ws S.ot 0 with
    | none =>
      intro H1 s1
      refine ⟨_, fldIs (I.same s1).ob, walk2 H1 s1 _ ?_⟩
      have q : ∀ l H', H l = none → Same H H' → H' l = some (.lst [.str "walk"]) → Q (.ref l) H' := by
        rcases h with ⟨-, q⟩ | ⟨os, ys, b1, b2, b4, e3, -⟩
        · exact q
        · rw [e1] at e3
          cases e3
      cases e2 : walkL S.ws (S.t S.fl) (S.b S.fl) with
      | none =>
        intro H2 s2
        refine ⟨fun _ _ => False, ?_, fun _ _ z => z.elim⟩
        rw [if_pos rfl]
        exact ⟨by omega, fun p np => q p _ (none_of (s1.trans s2) np) ((s1.trans s2).trans (same_new np)) upd_same⟩
      | some ys =>
        intro l2 H2 nl2 s2 g2
        refine ⟨fun _ _ => False, ?_, fun _ _ z => z.elim⟩
        rw [if_pos rfl]
        exact ⟨by omega, fun p np => q p _ (none_of (s1.trans s2) np) ((s1.trans s2).trans (same_new np)) upd_same⟩
    | some os =>
      intro lo1 H1 nl1 s1 g1
      refine ⟨_, fldIs (I.same s1).ob, walk2 H1 s1 _ ?_⟩
      cases e2 : walkL S.ws (S.t S.fl) (S.b S.fl) with
      | none =>
        have q : ∀ l H', H l = none → Same H H' → H' l = some (.lst [.str "walk"]) → Q (.ref l) H' := by
          rcases h with ⟨-, q⟩ | ⟨os, ys, b1, b2, b4, -, e3, -⟩
          · exact q
          · rw [e2] at e3
            cases e3
        intro H2 s2
        refine ⟨fun _ _ => False, ?_, fun _ _ z => z.elim⟩
        rw [if_neg (by intro z; cases z), if_pos rfl]
        exact ⟨by omega, fun p np => q p _ (none_of (s1.trans s2) np) ((s1.trans s2).trans (same_new np)) upd_same⟩
      | some ys =>
        intro lo2 H2 nl2 s2 g2
        rcases h with ⟨e3 | e3, -⟩ | ⟨os', ys', b1, b2, b4, e3, e4, h1, h2, h4, q⟩
        · rw [e1] at e3
          cases e3
        · rw [e2] at e3
          cases e3
        cases e1.symm.trans e3
        cases e2.symm.trans e4
        have t1 := walk_tile (Nat.le_refl _) e1
        have t2 := walk_tile (Nat.le_refl _) e2
        have f1 := t1.fit
        have f2 := t2.fit
        have l1 := t1.len
        have l2 := t2.len
        have s12 := s1.trans s2
        have g12 := s2 _ _ g1
        have nI : ∀ {cs : List Nat}, (cs.map fun p : Nat => (p : Int)).length = cs.length := fun {cs} => List.length_map ..
        refine ⟨fun σ' H' => σ' = [some (.ref A.a), some (.ref R.r), some (.ref A.m), some (.ref lo1), some (.ref lo2), none, none] ∧ H' = H2, ?_, ?_⟩
        · rw [if_neg (by intro z; cases z), if_neg (by intro z; cases z)]
          exact ⟨rfl, rfl⟩
        rintro σ' H' ⟨rfl, rfl⟩
        walk_at "w3"
        refine ⟨by omega, fun p np => ?_⟩
        have s3 := same_new (o := .lst []) np
        have hp3 : upd H' p (.lst []) p = some (.lst []) := upd_same
        have npH := none_of s12 np
        have s03 := s12.trans s3
        have g13 := s3 _ _ g12
        have g23 := s3 _ _ g2
        generalize upd H' p (.lst []) = H3 at s3 hp3 s03 g13 g23 ⊢
        -- all but the list of faults stays
        refine ⟨fun σ' Hy => σ' = [some (.ref A.a), some (.ref R.r), some (.ref A.m), some (.ref lo1), some (.ref lo2), some (.ref p), none] ∧ FaS H lo1 lo2 p ((os.map fun p : Nat => (p : Int)).map V.int) ((ys.map fun p : Nat => (p : Int)).map V.int) Hy (if b1 then [V.str "stray"] else []), ?_, ?_⟩
        · refine ⟨_, _, g13, g23, by rw [List.length_map, List.length_map, List.length_map, List.length_map]; omega, fun c nc => ?_⟩
          have s4 := same_new (o := .lst ((os.map fun p : Nat => (p : Int)).map V.int ++ (ys.map fun p : Nat => (p : Int)).map V.int)) nc
          have s04 := s03.trans s4
          refine ⟨A.m, A.mx, A.l, S.ws, R, T', c, os ++ ys, rfl, (I.same s04).me, I.vw, by omega, Ro.same s04, tl, fl, lwl, hsl, by rw [upd_same, ← List.map_append, ← List.map_append], by rw [List.length_append]; omega, fun x m => ?_, fun l H5 nl s5 gl => ?_⟩
          · rcases List.mem_append.mp m with m | m
            · obtain ⟨a1, a2, a3⟩ := f1.2 x m
              exact ⟨by omega, a3⟩
            · obtain ⟨a1, a2, a3⟩ := f2.2 x m
              exact ⟨by omega, a3⟩
          have s45 := s4.trans s5
          have tlen : (toldP S.ws T'.hs T'.ts T'.ws (os ++ ys)).length ≤ 5000000 := by
            unfold toldP
            have k1 := kids_sum (ws := S.ws) (cs := os ++ ys)
            have k2 := placesW_len (hs := T'.hs)
            have k3 := namesI_len (ts := T'.ts)
            have k4 := lastsI_len (lw := T'.ws)
            rw [List.length_append] at k1
            rw [List.length_append, List.length_append, List.length_append]
            omega
          dsimp only
          generalize toldP S.ws T'.hs T'.ts T'.ws (os ++ ys) = tp at h1 gl tlen
          refine ⟨l, rfl, ⟨_, .of gl⟩, fun D nD => ?_⟩
          refine lc_mapL (xs := tp.map V.int) (ys := (tp.map fun x => (!decide (x ∈ os.map fun p : Nat => (p : Int))) && !decide (x ∈ ys.map fun p : Nat => (p : Int))).map V.bl) (fun _ => rfl) (fun acc => .of ((upd_ne (ne_of_none gl nD)).trans gl)) (by rw [List.length_map]; omega) (by rw [List.length_map, List.length_map, List.length_map]) (fun i x y hx hy acc Q2 q2 => ?_) ?_
          · obtain ⟨n, rfl, mn⟩ := ints_mem hx
            rw [List.getElem?_map] at hx
            cases en : tp[i]? with
            | none => rw [en] at hx; cases hx
            | some n' =>
              rw [en] at hx
              cases hx
              rw [List.getElem?_map, List.getElem?_map, en] at hy
              cases hy
              have a1 := (upd_ne (o := .lst acc) (ne_of_none (s45 _ _ g13) nD)).trans (s45 _ _ g13)
              have a2 := (upd_ne (o := .lst acc) (ne_of_none (s45 _ _ g23) nD)).trans (s45 _ _ g23)
              walk_at "w3"
              refine ⟨lo1, _, rfl, .inl (.of a1), rfl, all_flat, ?_⟩
              rw [if_pos (rfl : true = true), in_ints]
              refine ⟨_, rfl, ?_⟩
              have q2 : Q2 (.bl (!decide (n ∈ os.map fun p : Nat => (p : Int)) && !decide (n ∈ ys.map fun p : Nat => (p : Int)))) (upd H5 D (.lst acc)) := q2
              by_cases c1 : n ∈ os.map fun p : Nat => (p : Int)
              · rw [decide_eq_true c1] at q2 ⊢
                exact q2
              · rw [decide_eq_false c1] at q2 ⊢
                rw [if_pos (show (!false) = true from rfl)]
                refine ⟨lo2, _, rfl, .inl (.of a2), rfl, all_flat, ?_⟩
                rw [if_pos (rfl : true = true), in_ints]
                exact q2
          · have F5 : FaS H lo1 lo2 p ((os.map fun p : Nat => (p : Int)).map V.int) ((ys.map fun p : Nat => (p : Int)).map V.int) (upd H5 D (.lst ((tp.map fun x => (!decide (x ∈ os.map fun p : Nat => (p : Int))) && !decide (x ∈ ys.map fun p : Nat => (p : Int))).map V.bl))) [] := (⟨s03, g13, g23, hp3⟩ : FaS H lo1 lo2 p _ _ H3 []).same (s45.trans (same_new nD))
            dsimp only
            refine ⟨D, _, rfl, .of upd_same, ?_⟩
            have ev : (tp.map fun x => (!decide (x ∈ os.map fun p : Nat => (p : Int))) && !decide (x ∈ ys.map fun p : Nat => (p : Int))).any id = b1 := by
              rw [Bool.eq_iff_iff, h1, List.any_map, List.any_eq_true]
              constructor
              · rintro ⟨x, mx, e⟩
                have e : (!decide (x ∈ os.map fun p : Nat => (p : Int)) && !decide (x ∈ ys.map fun p : Nat => (p : Int))) = true := e
                rw [Bool.and_eq_true, Bool.not_eq_true', Bool.not_eq_true', decide_eq_false_iff_not, decide_eq_false_iff_not] at e
                refine ⟨x, mx, fun p m z => ?_⟩
                rcases List.mem_append.mp m with m | m
                · exact e.1 (natI_mem.mpr ⟨p, m, z⟩)
                · exact e.2 (natI_mem.mpr ⟨p, m, z⟩)
              · rintro ⟨x, mx, e⟩
                refine ⟨x, mx, ?_⟩
                show (!decide (x ∈ os.map fun p : Nat => (p : Int)) && !decide (x ∈ ys.map fun p : Nat => (p : Int))) = true
                rw [Bool.and_eq_true, Bool.not_eq_true', Bool.not_eq_true', decide_eq_false_iff_not, decide_eq_false_iff_not]
                exact ⟨fun z => let ⟨p, m, w⟩ := natI_mem.mp z; e p (List.mem_append_left _ m) w, fun z => let ⟨p, m, w⟩ := natI_mem.mp z; e p (List.mem_append_right _ m) w⟩
            rw [ev]
            refine ⟨b1, rfl, ?_⟩
            cases b1
            · exact ⟨rfl, F5⟩
            · rw [if_pos rfl]
              exact F5.app npH (ne_of_none g12 np) (ne_of_none g2 np) (Nat.zero_le _) fun Hz F6 => ⟨rfl, F6⟩
        rintro σ' Hy ⟨rfl, Fy⟩
        have n1 : lo1 ≠ p := ne_of_none g12 np
        have n2 : lo2 ≠ p := ne_of_none g2 np
        have z1 : (if b1 then [V.str "stray"] else []).length ≤ 1 := by cases b1 <;> decide
        walk_at "w3"
        refine ⟨fun σ' Hy => σ' = [some (.ref A.a), some (.ref R.r), some (.ref A.m), some (.ref lo1), some (.ref lo2), some (.ref p), none] ∧ FaS H lo1 lo2 p ((os.map fun p : Nat => (p : Int)).map V.int) ((ys.map fun p : Nat => (p : Int)).map V.int) Hy ((if b1 then [V.str "stray"] else []) ++ if b2 then [V.str "book"] else []), ?_, ?_⟩
        · have Roy := Ro.same Fy.s
          refine ⟨_, fldIs Roy.ob, recv Roy.bo.ob, R.b, R.bx, T'.bd, T'.bs, rfl, Roy.bo, bl, fun ns r1 H6 perm so nr1 s6 g6 => ?_⟩
          have F6 := Fy.same s6
          refine ⟨A.m, A.mx, A.l, S.ws, lo1, os, lo2, ys, rfl, (I.same F6.s).me, I.vw, by omega, F6.a, F6.b, by omega, fun x m => ?_, fun l H7 nl s7 g7 => ?_⟩
          · obtain ⟨a1, a2, a3⟩ := f1.2 x m
            exact ⟨by omega, a3⟩
          have F7 := F6.same s7
          refine r_nePl (s7 _ _ g6) g7 PlAll_ints PlAll_ints ?_
          have ev : (!PyData.eqv (.list (ns.map PyData.int)) (.list ((dueP S.ws os ys).map PyData.int))) = b2 := by
            rw [eqv_ints]
            have key : ns = dueP S.ws os ys ↔ b2 = false := by
              rw [h2]
              constructor
              · intro e x
                rw [← e]
                exact perm.mem_iff.symm
              · intro e
                exact rise_eq (up_of so (perm.nodup_iff.mpr Ro.bo.nd)) t1.due_up.1 fun x => perm.mem_iff.trans (e x)
            cases b2
            · rw [decide_eq_true (key.mpr rfl)]
              rfl
            · rw [decide_eq_false fun z => by cases key.mp z]
              rfl
          rw [ev]
          refine ⟨b2, rfl, ?_⟩
          cases b2
          · refine ⟨rfl, ?_⟩
            show FaS H lo1 lo2 p _ _ H7 (_ ++ [])
            rw [List.append_nil]
            exact F7
          · rw [if_pos rfl]
            exact F7.app npH n1 n2 (by omega) fun Hz F6 => ⟨rfl, F6⟩
        clear Fy
        rintro σ' Hy ⟨rfl, Fy⟩
        have z2 : ((if b1 then [V.str "stray"] else []) ++ if b2 then [V.str "book"] else []).length ≤ 2 := by cases b1 <;> cases b2 <;> decide
        walk_at "w3"
        refine ⟨fun σ' Hy => σ' = [some (.ref A.a), some (.ref R.r), some (.ref A.m), some (.ref lo1), some (.ref lo2), some (.ref p), none] ∧ FaS H lo1 lo2 p ((os.map fun p : Nat => (p : Int)).map V.int) ((ys.map fun p : Nat => (p : Int)).map V.int) Hy (((if b1 then [V.str "stray"] else []) ++ if b2 then [V.str "book"] else []) ++ if decide ((S.n : Int) < (S.ot : Int) + ((S.t S.fl : Int) - S.b S.fl)) then [V.str "room"] else []), ?_, ?_⟩
        · have Iy := I.same Fy.s
          have hy := Iy.half S.fl
          refine ⟨_, fldIs Iy.ob, recv Iy.so, A.o, A.ox, 0, S.n, S.ot, rfl, Iy.so, ?_⟩
          walk_at "w3"
          refine ⟨_, fldIs Iy.ob, recv hy, A.y S.fl, A.yx S.fl, S.b S.fl, S.b S.fl + S.k, S.t S.fl, rfl, hy, ?_⟩
          walk_at "w3"
          refine ⟨_, fldIs Iy.ob, _, fldIs Iy.so, _, fldIs Iy.ob, _, fldIs Iy.so, ?_⟩
          walk_at "w3"
          by_cases c : (S.n : Int) < (S.ot : Int) + ((S.t S.fl : Int) - S.b S.fl)
          · rw [if_pos (by omega)]
            simp only [if_pos c]
            exact Fy.app npH n1 n2 (by omega) fun Hz F6 => F6
          · rw [if_neg (by omega)]
            simp only [if_neg c, List.append_nil]
            exact Fy
        clear Fy
        rintro σ' Hy ⟨rfl, Fy⟩
        have z3 : (((if b1 then [V.str "stray"] else []) ++ if b2 then [V.str "book"] else []) ++ if decide ((S.n : Int) < (S.ot : Int) + ((S.t S.fl : Int) - S.b S.fl)) then [V.str "room"] else []).length ≤ 3 := by
          rw [List.length_append]
          have : (if decide ((S.n : Int) < (S.ot : Int) + ((S.t S.fl : Int) - S.b S.fl)) then [V.str "room"] else []).length ≤ 1 := by split <;> decide
          omega
        generalize hb3 : decide ((S.n : Int) < (S.ot : Int) + ((S.t S.fl : Int) - S.b S.fl)) = b3 at Fy z3 q
        generalize ez : (((if b1 then [V.str "stray"] else []) ++ if b2 then [V.str "book"] else []) ++ if b3 then [V.str "room"] else []) = zs at Fy z3
        have fin : ∀ Hz, FaS H lo1 lo2 p ((os.map fun p : Nat => (p : Int)).map V.int) ((ys.map fun p : Nat => (p : Int)).map V.int) Hz (zs ++ if b4 then [V.str "age"] else []) → Q (.ref p) Hz := fun Hz F => q p Hz npH F.s (by
          rw [F.c, ← ez, List.append_assoc, List.append_assoc]
          rfl)
        have agO : ∀ (n : Nat) (Hx : Hp), Same H Hx → n ∈ os ∨ n ∈ ys → ∀ Q2 : VK, Q2 (.int ((agAt S.ws n : Nat) : Int)) Hx → ∀ E2, sp_age_of K [.ref A.m, .int (n : Int)] Hx Q2 E2 := fun n Hx s m Q2 q2 E2 => by
          have ft : n + wAt S.ws n ≤ S.ws.length ∧ wAt S.ws n ≠ 0 := by
            rcases m with m | m
            · obtain ⟨a1, a2, a3⟩ := f1.2 n m
              exact ⟨by omega, a3⟩
            · obtain ⟨a1, a2, a3⟩ := f2.2 n m
              exact ⟨by omega, a3⟩
          obtain ⟨h, eh, ew⟩ := wAt_head ft.2
          refine ⟨A.m, A.mx, A.l, S.ws, _, rfl, (I.same s).me, I.vw, .inl ⟨_, rfl⟩, ?_⟩
          rw [ans_head' (by omega) eh]
          rw [agAt_of eh] at q2
          exact q2
        walk_at "w3"
        refine ⟨fun σ' Hy => σ' = [some (.ref A.a), some (.ref R.r), some (.ref A.m), some (.ref lo1), some (.ref lo2), some (.ref p), none] ∧ FaS H lo1 lo2 p ((os.map fun p : Nat => (p : Int)).map V.int) ((ys.map fun p : Nat => (p : Int)).map V.int) Hy (zs ++ if b4 then [V.str "age"] else []), ?_, ?_⟩
        · refine ⟨⟨_, .of Fy.a⟩, fun D nD => ?_⟩
          refine lc_mapL (xs := (os.map fun p : Nat => (p : Int)).map V.int) (ys := (os.map fun p => !decide (agAt S.ws p = 2)).map V.bl) (fun _ => rfl) (fun acc => .of ((upd_ne (ne_of_none Fy.a nD)).trans Fy.a)) (by rw [List.length_map, List.length_map]; omega) (by simp only [List.length_map]) (fun i x y hx hy acc Q2 q2 => ?_) ?_
          · obtain ⟨n, en, rfl⟩ := nats_at hx
            rw [List.getElem?_map, List.getElem?_map, en] at hy
            cases hy
            have sx : Same H (upd Hy D (.lst acc)) := Fy.s.trans (same_new nD)
            walk_at "w3"
            refine agO n _ sx (.inl (List.mem_of_getElem? en)) _ ?_ _
            show Q2 (.bl (!(((agAt S.ws n : Nat) : Int) == 2))) _
            rw [beq2]
            exact q2
          have F5 := Fy.same (same_new (o := .lst ((os.map fun p => !decide (agAt S.ws p = 2)).map V.bl)) nD)
          have g5 : upd Hy D (.lst ((os.map fun p => !decide (agAt S.ws p = 2)).map V.bl)) D = some (.lst ((os.map fun p => !decide (agAt S.ws p = 2)).map V.bl)) := upd_same
          generalize upd Hy D (.lst ((os.map fun p => !decide (agAt S.ws p = 2)).map V.bl)) = H5 at F5 g5 ⊢
          dsimp only
          refine ⟨D, _, rfl, .of g5, _, rfl, ?_⟩
          have ea : (os.map fun p => !decide (agAt S.ws p = 2)).any id = true ↔ ∃ p ∈ os, agAt S.ws p ≠ 2 := by
            rw [List.any_map, List.any_eq_true]
            exact ⟨fun ⟨x, mx, e⟩ => ⟨x, mx, by have e : (!decide (agAt S.ws x = 2)) = true := e; rw [Bool.not_eq_true', decide_eq_false_iff_not] at e; exact e⟩, fun ⟨x, mx, e⟩ => ⟨x, mx, by show (!decide (agAt S.ws x = 2)) = true; rw [Bool.not_eq_true', decide_eq_false_iff_not]; exact e⟩⟩
          by_cases c1 : ∃ p ∈ os, agAt S.ws p ≠ 2
          · rw [if_pos (ea.mpr c1)]
            have e4 : b4 = true := h4.mpr (.inl c1)
            subst e4
            exact F5.app npH n1 n2 (by omega) fun Hz F6 => ⟨rfl, F6⟩
          rw [if_neg (fun z => c1 (ea.mp z))]
          refine ⟨⟨_, .of F5.b⟩, fun D2 nD2 => ?_⟩
          refine lc_mapL (xs := (ys.map fun p : Nat => (p : Int)).map V.int) (ys := (ys.map fun p => decide (agAt S.ws p = 2)).map V.bl) (fun _ => rfl) (fun acc => .of ((upd_ne (ne_of_none F5.b nD2)).trans F5.b)) (by rw [List.length_map, List.length_map]; omega) (by simp only [List.length_map]) (fun i x y hx hy acc Q2 q2 => ?_) ?_
          · obtain ⟨n, en, rfl⟩ := nats_at hx
            rw [List.getElem?_map, List.getElem?_map, en] at hy
            cases hy
            have sx : Same H (upd H5 D2 (.lst acc)) := F5.s.trans (same_new nD2)
            walk_at "w3"
            refine agO n _ sx (.inr (List.mem_of_getElem? en)) _ ?_ _
            show Q2 (.bl (((agAt S.ws n : Nat) : Int) == 2)) _
            rw [beq2]
            exact q2
          have F6 := F5.same (same_new (o := .lst ((ys.map fun p => decide (agAt S.ws p = 2)).map V.bl)) nD2)
          dsimp only
          refine ⟨D2, _, rfl, .of upd_same, _, rfl, ?_⟩
          have eb : (ys.map fun p => decide (agAt S.ws p = 2)).any id = true ↔ ∃ p ∈ ys, agAt S.ws p = 2 := by
            rw [List.any_map, List.any_eq_true]
            exact ⟨fun ⟨x, mx, e⟩ => ⟨x, mx, of_decide_eq_true e⟩, fun ⟨x, mx, e⟩ => ⟨x, mx, decide_eq_true e⟩⟩
          by_cases c2 : ∃ p ∈ ys, agAt S.ws p = 2
          · rw [if_pos (eb.mpr c2)]
            have e4 : b4 = true := h4.mpr (.inr c2)
            subst e4
            exact F6.app npH n1 n2 (by omega) fun Hz F7 => ⟨rfl, F7⟩
          · rw [if_neg (fun z => c2 (eb.mp z))]
            have e4 : b4 = false := by
              cases e : b4 with
              | false => rfl
              | true => rcases h4.mp e with z | z
                        · exact absurd z c1
                        · exact absurd z c2
            subst e4
            refine ⟨rfl, ?_⟩
            show FaS H lo1 lo2 p _ _ _ (zs ++ [])
            rw [List.append_nil]
            exact F6
        rintro σ' Hz ⟨rfl, F⟩
        exact ⟨_, rfl, fin Hz F⟩
end

local macro_rules | `(tactic| walk_at "w3") => `(tactic| try simp only [↓x_var0, ↓x_varS, ↓x_c, ↓x_op, ↓x_un, ↓x_cb, ↓x_nil, ↓x_cons, ↓x_test, ↓x_b, ↓x_ex, ↓x_and, ↓x_or, ↓x_not, ↓x_andV, ↓x_orV, ↓x_notV, ↓x_tif, ↓x_chain, ↓x_menu, ↓x_menuI, ↓x_lst, ↓x_tup, ↓x_dnew, ↓x_callW, ↓x_callN, ↓x_seq, ↓x_next, ↓x_ret, ↓x_retN, ↓x_drop, ↓x_ifS, ↓x_asg, ↓x_name, ↓x_raise, ↓x_fld, ↓x_setF, ↓x_meth, ↓x_make, ↓x_sub, ↓r_min, ↓r_max, ↓x_yes, ↓x_for, ↓x_lock, ↓x_keys, ↓x_cut, ↓x_lc, ↓x_rng1, ↓x_rng2, ↓x_lst1, ↓x_itup, ↓x_rng3, ↓x_three, ↓x_lstg, ↓x_tupg, ↓x_adrS, ↓x_one, ↓x_two, ↓x_adr, ↓x_sl, ↓x_np, ↓x_pt, ↓x_int, ↓x_bm, ↓x_bm0, ↓x_consg, ↓x_nilg, ↓x_dget2, ↓x_dget1, ↓x_dget, ↓x_din, ↓x_dni, ↓x_dput, ↓x_dpop2, ↓r_isB, ↓r_notB, ↓x_enum, ↓x_zip, ↓x_str, ↓x_strE, ↓r_inS, ↓r_ninS, wipe, List.map_cons, List.map_nil, ↓x_isT, ↓r_isiII, ↓r_isiBB, ↓r_isiIB, ↓r_isiSS, ↓r_neNS, ↓r_neSN, ↓r_neNN, ↓r_eqNS, ↓r_eqSN, ↓r_eqNN, ↓r_eqIS, ↓r_neIS, ↓r_neSI, ↓r_neBS, ↓r_eqBB, ↓r_neBB, ↓x_start, ↓x_K, ↓x_start0, ↓r_i0, ↓r_i, ↓r_u, ↓r_addI, ↓r_addS, ↓r_mulI, ↓r_mulS, ↓r_eqI, ↓r_neI, ↓r_eqS, ↓r_neS, ↓r_absI, ↓r_intI, ↓r_intB, List.length_cons, List.length_nil, List.replicate, List.set_cons_zero, List.set_cons_succ, decide_eq_true_eq, Bool.not_eq_true', decide_eq_false_iff_not, if_true, if_false, Bool.false_eq_true, Bool.true_eq_false, ite_true, ite_false, Bool.not_true, Bool.not_false, c_div, n_ten, c_pow, not_true_eq_false, not_false_eq_true, decide_true, decide_false, true_and, and_true, and_self, true_or, or_true, Int.reduceLT, Int.reduceLE, Int.reduceMul, Int.reduceAdd, Int.reduceSub, Int.reducePow, Int.reduceNeg, Int.reduceDiv, Int.reduceMod, Nat.reducePow, Int.reduceToNat, Int.reduceEq, Int.reduceNe, Nat.reduceLT, Nat.reduceLeDiff, Nat.reduceAdd, ↓x_whole, ↓x_kind, Int.natCast_one])
theorem CelP.age {S C} (h : CelP S C) {c : CeL} {a : Nat} (m : c ∈ C) (hl : c.p < S.ws.length) (ha : a ≤ 2) (h8 : c.ws.length ≤ 8) : CelP { S with ws := S.ws.set c.p (2 * ((4 * c.ws.length + a : Nat) : Int)) } C := by
  refine ⟨fun d md => ?_, fun d md j hj => ?_, h.ar, h.dj⟩
  · show ∃ a', a' ≤ 2 ∧ headAt ((S.ws.set c.p _).getD d.p 0) = _
    rw [getD_set hl]
    by_cases e : c.p = d.p
    · have := h.same_p m md e
      subst this
      rw [if_pos rfl]
      refine ⟨a, ha, ?_⟩
      unfold headAt
      rw [word_num (by omega)]
      dsimp only
      rw [if_pos (by omega), Int.toNat_natCast]
    · rw [if_neg e]
      exact h.hd d md
  · show (S.ws.set c.p _).getD (d.p + 1 + j) 0 = _
    rw [getD_set hl, if_neg ?_]
    · exact h.sl d md j hj
    · intro e
      by_cases e2 : c = d
      · subst e2
        omega
      · have := h.apart m md e2
        omega
theorem setC_mem {C : List CeL} {p j : Nat} {n : Int} {b : CeL} (m : b ∈ setC C p j n) : ∃ a ∈ C, b.p = a.p ∧ b.r = a.r ∧ b.ws.length = a.ws.length ∧ ((a.p = p ∧ b.ws = a.ws.set j n) ∨ (a.p ≠ p ∧ b = a)) := by
  obtain ⟨a, ma, rfl⟩ := List.mem_map.mp m
  by_cases e : a.p = p
  · rw [if_pos e]
    exact ⟨a, ma, rfl, rfl, List.length_set .., .inl ⟨e, rfl⟩⟩
  · rw [if_neg e]
    exact ⟨a, ma, rfl, rfl, rfl, .inr ⟨e, rfl⟩⟩
theorem setC_p {C : List CeL} {p j : Nat} {n : Int} : (setC C p j n).map (fun c => (c.p : Int)) = C.map fun c => (c.p : Int) := by
  unfold setC
  rw [List.map_map]
  congr 1
  funext c
  show ((if c.p = p then { c with ws := c.ws.set j n } else c).p : Int) = c.p
  split <;> rfl
theorem setC_len {C : List CeL} {p j : Nat} {n : Int} : (setC C p j n).length = C.length := List.length_map ..
theorem setC_at {C : List CeL} {p j i : Nat} {n : Int} {c : CeL} (h : C[i]? = some c) : ∃ d, (setC C p j n)[i]? = some d ∧ d.p = c.p ∧ d.ws.length = c.ws.length := by
  unfold setC
  rw [List.getElem?_map, h]
  refine ⟨_, rfl, ?_, ?_⟩
  · show (if c.p = p then { c with ws := c.ws.set j n } else c).p = c.p
    split <;> rfl
  · show (if c.p = p then { c with ws := c.ws.set j n } else c).ws.length = c.ws.length
    split
    · exact List.length_set ..
    · rfl
theorem CelP.put {S C} {c : CeL} {j : Nat} {n : Int} (h : CelP S C) (m : c ∈ C) (hj : j < c.ws.length) (hl : c.p + c.ws.length < S.ws.length) : CelP { S with ws := S.ws.set (c.p + 1 + j) n } (setC C c.p j n) := by
  have ap : ∀ a ∈ C, a.p ≠ c.p → a.p + a.ws.length < c.p ∨ c.p + c.ws.length < a.p := fun a ma ne => h.apart ma m fun z => ne (by rw [z])
  refine ⟨fun b mb => ?_, fun b mb i hi => ?_, fun b mb => ?_, ?_⟩
  · obtain ⟨a, ma, e1, e2, e3, e4⟩ := setC_mem mb
    show ∃ a', a' ≤ 2 ∧ headAt ((S.ws.set _ n).getD b.p 0) = _
    rw [e1, e3, getD_set (by omega), if_neg ?_]
    · exact h.hd a ma
    · rcases e4 with ⟨e4, -⟩ | ⟨ne, -⟩
      · omega
      · have := ap a ma ne
        omega
  · obtain ⟨a, ma, e1, e2, e3, e4⟩ := setC_mem mb
    show (S.ws.set _ n).getD (b.p + 1 + i) 0 = _
    rcases e4 with ⟨e4, e5⟩ | ⟨ne, rfl⟩
    · have := h.same_p ma m e4
      subst this
      rw [e3] at hi
      rw [e1, e5, getD_set (by omega), getD_set hj]
      by_cases e : j = i
      · subst e
        rw [if_pos rfl, if_pos rfl]
      · rw [if_neg (by omega), if_neg e]
        exact h.sl a ma i hi
    · have := ap b ma ne
      rw [getD_set (by omega), if_neg (by omega)]
      exact h.sl b ma i hi
  · obtain ⟨a, ma, e1, e2, e3, e4⟩ := setC_mem mb
    show b.p + b.ws.length < S.ot ∨ S.b S.fl ≤ b.p ∧ b.p + b.ws.length < S.t S.fl
    rw [e1, e3]
    exact h.ar a ma
  · unfold setC
    refine List.pairwise_map.mpr (h.dj.imp fun {a b} q => ?_)
    have f : ∀ x : CeL, (if x.p = c.p then { x with ws := x.ws.set j n } else x).p = x.p ∧ (if x.p = c.p then { x with ws := x.ws.set j n } else x).ws.length = x.ws.length := fun x => by
      split
      · exact ⟨rfl, List.length_set ..⟩
      · exact ⟨rfl, rfl⟩
    rw [(f a).1, (f a).2, (f b).1, (f b).2]
    exact q
/-- slots of a cell, the first t of them, that are due in the book -/
def dueC (n : Nat) (c : CeL) (t : Nat) : List Int := (List.range t).filterMap fun s => if 2 * (c.p : Int) + 1 < 2 * (n : Int) ∧ c.ws.getD s 0 % 2 = 1 ∧ 2 * (n : Int) < c.ws.getD s 0 then some ((c.p + 1 + s : Nat) : Int) else none
theorem dueC_succ {n : Nat} {c : CeL} {t : Nat} : dueC n c (t + 1) = dueC n c t ++ (if 2 * (c.p : Int) + 1 < 2 * (n : Int) ∧ c.ws.getD t 0 % 2 = 1 ∧ 2 * (n : Int) < c.ws.getD t 0 then [((c.p + 1 + t : Nat) : Int)] else []) := by
  unfold dueC
  rw [List.range_succ, List.filterMap_append]
  congr 1
  rw [List.filterMap_cons, List.filterMap_nil]
  by_cases h : 2 * (c.p : Int) + 1 < 2 * (n : Int) ∧ c.ws.getD t 0 % 2 = 1 ∧ 2 * (n : Int) < c.ws.getD t 0
  · rw [if_pos h, if_pos h]
  · rw [if_neg h, if_neg h]
def dueL (n : Nat) (C : List CeL) : List Int := C.flatMap fun c => dueC n c c.ws.length
theorem mem_dueC {n : Nat} {c : CeL} {t : Nat} {x : Int} : x ∈ dueC n c t ↔ ∃ s, s < t ∧ x = ((c.p + 1 + s : Nat) : Int) ∧ 2 * (c.p : Int) + 1 < 2 * (n : Int) ∧ c.ws.getD s 0 % 2 = 1 ∧ 2 * (n : Int) < c.ws.getD s 0 := by
  unfold dueC
  rw [List.mem_filterMap]
  constructor
  · rintro ⟨s, hs, e⟩
    split at e
    · cases e
      exact ⟨s, List.mem_range.mp hs, rfl, by assumption⟩
    · cases e
  · rintro ⟨s, hs, rfl, h⟩
    exact ⟨s, List.mem_range.mpr hs, by rw [if_pos h]⟩
theorem dueC_nd {n : Nat} {c : CeL} : ∀ {t : Nat}, (dueC n c t).Nodup
  | 0 => List.nodup_nil
  | t + 1 => by
    rw [dueC_succ]
    refine List.nodup_append.mpr ⟨dueC_nd, by split <;> simp, fun a ha b hb e => ?_⟩
    obtain ⟨s, hs, rfl, -⟩ := mem_dueC.mp ha
    split at hb
    · rw [List.mem_singleton.mp hb] at e
      omega
    · exact (List.not_mem_nil hb).elim
theorem dueC_len {n : Nat} {c : CeL} {t : Nat} : (dueC n c t).length ≤ t := by
  have := List.length_filterMap_le (fun s => if 2 * (c.p : Int) + 1 < 2 * (n : Int) ∧ c.ws.getD s 0 % 2 = 1 ∧ 2 * (n : Int) < c.ws.getD s 0 then some ((c.p + 1 + s : Nat) : Int) else none) (List.range t)
  rw [List.length_range] at this
  exact this
theorem mem_dueL {n : Nat} {C : List CeL} {x : Int} : x ∈ dueL n C ↔ ∃ c ∈ C, ∃ s, s < c.ws.length ∧ x = ((c.p + 1 + s : Nat) : Int) ∧ 2 * (c.p : Int) + 1 < 2 * (n : Int) ∧ c.ws.getD s 0 % 2 = 1 ∧ 2 * (n : Int) < c.ws.getD s 0 := by
  unfold dueL
  rw [List.mem_flatMap]
  exact ⟨fun ⟨c, m, h⟩ => ⟨c, m, mem_dueC.mp h⟩, fun ⟨c, m, h⟩ => ⟨c, m, mem_dueC.mpr h⟩⟩
theorem dueL_nd {n : Nat} {C : List CeL} (h : C.Pairwise fun a b => a.p + a.ws.length < b.p ∨ b.p + b.ws.length < a.p) : (dueL n C).Nodup := by
  induction C with
  | nil => exact List.nodup_nil
  | cons c r ih =>
    obtain ⟨h1, h2⟩ := List.pairwise_cons.mp h
    show (dueC n c c.ws.length ++ dueL n r).Nodup
    refine List.nodup_append.mpr ⟨dueC_nd, ih h2, fun a ha b hb e => ?_⟩
    obtain ⟨s, hs, rfl, -⟩ := mem_dueC.mp ha
    obtain ⟨d, md, s', hs', rfl, -⟩ := mem_dueL.mp hb
    have := h1 d md
    omega
theorem dueL_take {n : Nat} {C : List CeL} {i : Nat} {c : CeL} (h : C[i]? = some c) : dueL n (C.take (i + 1)) = dueL n (C.take i) ++ dueC n c c.ws.length := by
  have hi := (List.getElem?_eq_some_iff.mp h)
  obtain ⟨hl, he⟩ := hi
  rw [List.take_succ_eq_append_getElem hl]
  unfold dueL
  rw [List.flatMap_append, he]
  simp
theorem dueL_len {n : Nat} {C : List CeL} (h : ∀ c ∈ C, c.ws.length ≤ 8) : (dueL n C).length ≤ 8 * C.length := by
  induction C with
  | nil => exact Nat.le_refl _
  | cons c r ih =>
    show (dueC n c c.ws.length ++ dueL n r).length ≤ _
    rw [List.length_append, List.length_cons]
    have := dueC_len (n := n) (c := c) (t := c.ws.length)
    have := h c (List.mem_cons_self)
    have := ih fun c m => h c (List.mem_cons_of_mem _ m)
    omega
theorem rep_flat {n : Nat} : (List.replicate n [V.int (-1)]).flatten = (List.replicate n (-1 : Int)).map V.int := by
  induction n with
  | zero => rfl
  | succ n ih => rw [List.replicate_succ, List.flatten_cons, ih, List.replicate_succ]; rfl
theorem due_set {S C} (h : CelP S C) {c : CeL} {s : Nat} {w : Int} {n : Nat} (m : c ∈ C) (hs : s < c.ws.length) {x : Int} : x ∈ dueL n (setC C c.p s w) ↔ (x ∈ dueL n C ∧ x ≠ ((c.p + 1 + s : Nat) : Int)) ∨ (x = ((c.p + 1 + s : Nat) : Int) ∧ 2 * (c.p : Int) + 1 < 2 * (n : Int) ∧ w % 2 = 1 ∧ 2 * (n : Int) < w) := by
  constructor
  · intro hx
    obtain ⟨b, mb, s', hs', rfl, h1, h2, h3⟩ := mem_dueL.mp hx
    obtain ⟨a, ma, rfl⟩ := List.mem_map.mp mb
    by_cases e : a.p = c.p
    · have ea := h.same_p ma m e
      subst ea
      rw [if_pos rfl] at hs' h1 h2 h3 ⊢
      dsimp only at hs' h1 h2 h3 ⊢
      rw [List.length_set] at hs'
      rw [getD_set hs] at h2 h3
      by_cases e2 : s = s'
      · subst e2
        rw [if_pos rfl] at h2 h3
        exact .inr ⟨rfl, h1, h2, h3⟩
      · rw [if_neg e2] at h2 h3
        exact .inl ⟨mem_dueL.mpr ⟨a, ma, s', hs', rfl, h1, h2, h3⟩, by omega⟩
    · rw [if_neg e] at hs' h1 h2 h3 ⊢
      have := h.apart ma m (fun z => e (by rw [z]))
      exact .inl ⟨mem_dueL.mpr ⟨a, ma, s', hs', rfl, h1, h2, h3⟩, by omega⟩
  · rintro (⟨hx, ne⟩ | ⟨rfl, h1, h2, h3⟩)
    · obtain ⟨a, ma, s', hs', rfl, h1, h2, h3⟩ := mem_dueL.mp hx
      refine mem_dueL.mpr ⟨_, List.mem_map.mpr ⟨a, ma, rfl⟩, s', ?_⟩
      by_cases e : a.p = c.p
      · have ea := h.same_p ma m e
        subst ea
        rw [if_pos rfl]
        dsimp only
        rw [List.length_set, getD_set hs, if_neg (by omega)]
        exact ⟨hs', rfl, h1, h2, h3⟩
      · rw [if_neg e]
        exact ⟨hs', rfl, h1, h2, h3⟩
    · refine mem_dueL.mpr ⟨_, List.mem_map.mpr ⟨c, m, rfl⟩, s, ?_⟩
      rw [if_pos rfl]
      dsimp only
      rw [List.length_set, getD_set hs, if_pos rfl]
      exact ⟨hs, rfl, h1, h2, h3⟩
theorem due_lay {n : Nat} {C : List CeL} {p s : Nat} {r : Addr} {x : Int} : x ∈ dueL n (C ++ [⟨p, r, List.replicate s (-1)⟩]) ↔ x ∈ dueL n C := by
  constructor
  · intro hx
    obtain ⟨c, m, s', hs', rfl, h1, h2, h3⟩ := mem_dueL.mp hx
    rcases List.mem_append.mp m with m | m
    · exact mem_dueL.mpr ⟨c, m, s', hs', rfl, h1, h2, h3⟩
    · rw [List.mem_singleton.mp m] at hs' h3
      dsimp only at hs' h3
      rw [List.length_replicate] at hs'
      rw [List.getD_eq_getElem?_getD, List.getElem?_replicate, if_pos hs'] at h3
      have h3 : 2 * (n : Int) < -1 := h3
      omega
  · intro hx
    obtain ⟨c, m, h⟩ := mem_dueL.mp hx
    exact mem_dueL.mpr ⟨c, List.mem_append_left _ m, h⟩
theorem wd_odd {w : Int} {x : Wd} (h : wordOf w = some x) (n : ∀ p, x ≠ .place p) : ¬ (w % 2 = 1 ∧ 0 < w) := by
  unfold wordOf at h
  repeat' split at h
  all_goals first
    | (cases h; done)
    | (cases h; omega)
    | (cases h; exact absurd rfl (n _))
theorem old_is {S : ArS} {C : List CeL} (h : CelP S C) (fl : S.fl = false) (lo : S.ot ≤ S.n) {c : CeL} (m : c ∈ C) : areaW S c.p = .str "old" ↔ c.p < S.n := by
  have a := h.ar c m
  have eb : S.b S.fl = S.n := by unfold ArS.b; rw [fl]; rfl
  unfold areaW
  constructor
  · intro e
    split at e
    · omega
    · split at e <;> cases e
  · intro l
    rw [if_pos (by omega)]
theorem yng_is {S : ArS} {C : List CeL} (h : CelP S C) (fl : S.fl = false) (lo : S.ot ≤ S.n) {w : Int} (cw : ClW C w) : yngW S w = true ↔ w % 2 = 1 ∧ 2 * (S.n : Int) < w := by
  have eb : S.b S.fl = S.n := by unfold ArS.b; rw [fl]; rfl
  unfold yngW
  cases e : wordOf w with
  | none =>
    have := cw.1
    rw [e] at this
    cases this
  | some x =>
    cases x with
    | place p =>
      obtain ⟨c, m, rfl⟩ := cw.2 p e
      have ew := cl_word e
      have a := h.ar c m
      dsimp only
      rw [decide_eq_true_eq]
      unfold areaW
      constructor
      · intro y
        split at y
        · cases y
        · split at y
          · omega
          · cases y
      · intro y
        rw [if_neg (by omega), if_pos (by omega)]
    | _ =>
      have := wd_odd e (fun p z => by cases z)
      exact ⟨fun y => (by cases y), fun y => absurd (And.intro y.1 (by omega)) this⟩

local macro_rules | `(tactic| walk_at "w3") => `(tactic| try simp only [↓x_var0, ↓x_varS, ↓x_c, ↓x_op, ↓x_un, ↓x_cb, ↓x_nil, ↓x_cons, ↓x_test, ↓x_b, ↓x_ex, ↓x_and, ↓x_or, ↓x_not, ↓x_andV, ↓x_orV, ↓x_notV, ↓x_tif, ↓x_chain, ↓x_menu, ↓x_menuI, ↓x_lst, ↓x_tup, ↓x_dnew, ↓x_callW, ↓x_callN, ↓x_seq, ↓x_next, ↓x_ret, ↓x_retN, ↓x_drop, ↓x_ifS, ↓x_asg, ↓x_name, ↓x_raise, ↓x_fld, ↓x_setF, ↓x_meth, ↓x_make, ↓x_sub, ↓r_min, ↓r_max, ↓x_yes, ↓x_for, ↓x_lock, ↓x_keys, ↓x_cut, ↓x_lc, ↓x_rng1, ↓x_rng2, ↓x_lst1, ↓x_itup, ↓x_rng3, ↓x_three, ↓x_lstg, ↓x_tupg, ↓x_adrS, ↓x_one, ↓x_two, ↓x_adr, ↓x_sl, ↓x_np, ↓x_pt, ↓x_int, ↓x_bm, ↓x_bm0, ↓x_consg, ↓x_nilg, ↓x_dget2, ↓x_dget1, ↓x_dget, ↓x_din, ↓x_dni, ↓x_dput, ↓x_dpop2, ↓r_isB, ↓r_notB, ↓x_enum, ↓x_zip, ↓x_str, ↓x_strE, ↓r_inS, ↓r_ninS, wipe, List.map_cons, List.map_nil, ↓x_isT, ↓r_isiII, ↓r_isiBB, ↓r_isiIB, ↓r_isiSS, ↓r_neNS, ↓r_neSN, ↓r_neNN, ↓r_eqNS, ↓r_eqSN, ↓r_eqNN, ↓r_eqIS, ↓r_neIS, ↓r_neSI, ↓r_neBS, ↓r_eqBB, ↓r_neBB, ↓x_start, ↓x_K, ↓x_start0, ↓r_i0, ↓r_i, ↓r_u, ↓r_addI, ↓r_addS, ↓r_mulI, ↓r_mulS, ↓r_eqI, ↓r_neI, ↓r_eqS, ↓r_neS, ↓r_absI, ↓r_intI, ↓r_intB, List.length_cons, List.length_nil, List.replicate, List.set_cons_zero, List.set_cons_succ, decide_eq_true_eq, Bool.not_eq_true', decide_eq_false_iff_not, if_true, if_false, Bool.false_eq_true, Bool.true_eq_false, ite_true, ite_false, Bool.not_true, Bool.not_false, c_div, n_ten, c_pow, not_true_eq_false, not_false_eq_true, decide_true, decide_false, true_and, and_true, and_self, true_or, or_true, Int.reduceLT, Int.reduceLE, Int.reduceMul, Int.reduceAdd, Int.reduceSub, Int.reducePow, Int.reduceNeg, Int.reduceDiv, Int.reduceMod, Nat.reducePow, Int.reduceToNat, Int.reduceEq, Int.reduceNe, Nat.reduceLT, Nat.reduceLeDiff, Nat.reduceAdd, ↓x_whole, ↓x_kind, Int.natCast_one, Int.natCast_one])
/-! ## a sound heap, and what is planted in it: in plain -/
theorem natsub {p q : Nat} : ((p : Int) = (q : Int)) ↔ p = q := by omega
/-- cells as they lie: heads and bounds -/
structure Geo (S : ArS) (C : List CeL) (os ys : List Nat) : Prop where
  dj : C.Pairwise fun a b => a.p + a.ws.length < b.p ∨ b.p + b.ws.length < a.p
  ar : ∀ c ∈ C, c.p + c.ws.length < S.ot ∨ (S.b S.fl ≤ c.p ∧ c.p + c.ws.length < S.t S.fl)
  w : ∀ c ∈ C, wAt S.ws c.p = c.ws.length + 1
  body : ∀ c ∈ C, ∀ u, u < c.ws.length → headAt (S.ws.getD (c.p + 1 + u) 0) = none
  t1 : Tile S.ws S.ot 0 os
  t2 : Tile S.ws (S.t S.fl) (S.b S.fl) ys
  mo : ∀ x, x ∈ os ↔ ∃ c ∈ C, c.p = x ∧ x < S.n
  my : ∀ x, x ∈ ys ↔ ∃ c ∈ C, c.p = x ∧ S.n ≤ x
  fl : S.fl = false
  lo : S.ot ≤ S.n
  ln : S.ws.length = S.n + 2 * S.k
  lt : S.n ≤ S.t S.fl ∧ S.t S.fl ≤ S.n + S.k
theorem Geo.b {S C os ys} (g : Geo S C os ys) : S.b S.fl = S.n := by unfold ArS.b; rw [g.fl]; rfl
theorem Geo.apart {S C os ys} (g : Geo S C os ys) {a b : CeL} (ha : a ∈ C) (hb : b ∈ C) (ne : a ≠ b) : a.p + a.ws.length < b.p ∨ b.p + b.ws.length < a.p := pair_mem (fun _ _ q => q.symm) g.dj ha hb ne
theorem Geo.same_p {S C os ys} (g : Geo S C os ys) {a b : CeL} (ha : a ∈ C) (hb : b ∈ C) (e : a.p = b.p) : a = b := by
  by_cases e2 : a = b
  · exact e2
  · have := g.apart ha hb e2
    omega
theorem Geo.all {S C os ys} (g : Geo S C os ys) {x : Nat} : x ∈ os ++ ys ↔ ∃ c ∈ C, c.p = x := by
  rw [List.mem_append, g.mo, g.my]
  constructor
  · rintro (⟨c, m, e, -⟩ | ⟨c, m, e, -⟩) <;> exact ⟨c, m, e⟩
  · rintro ⟨c, m, e⟩
    by_cases h : x < S.n
    · exact .inl ⟨c, m, e, h⟩
    · exact .inr ⟨c, m, e, by omega⟩
theorem Geo.end_ {S C os ys} (g : Geo S C os ys) {c : CeL} (m : c ∈ C) : c.p + c.ws.length < S.ws.length := by
  have := g.ar c m
  have := g.lo
  have := g.ln
  have := g.lt
  omega
theorem mem_dueP {ws : List Int} {os ys : List Nat} {x : Int} : x ∈ dueP ws os ys ↔ ∃ p ∈ os, ∃ u, u < wAt ws p - 1 ∧ x = ((p + 1 + u : Nat) : Int) ∧ ∃ y ∈ ys, wordOf (ws.getD (p + 1 + u) 0) = some (.place (y : Int)) := by
  unfold dueP
  rw [List.mem_flatten]
  constructor
  · rintro ⟨l, ml, mx⟩
    obtain ⟨p, mp, rfl⟩ := List.mem_map.mp ml
    obtain ⟨u, mu, e⟩ := List.mem_filterMap.mp mx
    refine ⟨p, mp, u, List.mem_range.mp mu, ?_⟩
    split at e
    · rename_i y ey
      split at e
      · rename_i h
        obtain ⟨q, mq, eq⟩ := natI_mem.mp h
        exact ⟨(Option.some.inj e).symm, q, mq, by rw [ey, eq]⟩
      · cases e
    · cases e
  · rintro ⟨p, mp, u, hu, rfl, y, my, e⟩
    refine ⟨_, List.mem_map.mpr ⟨p, mp, rfl⟩, List.mem_filterMap.mpr ⟨u, List.mem_range.mpr hu, ?_⟩⟩
    rw [e]
    dsimp only
    rw [if_pos (natI_mem.mpr ⟨y, my, rfl⟩)]
theorem mem_kids {ws : List Int} {p t : Nat} {x : Int} : x ∈ kidsT ws p t ↔ ∃ u, u < t ∧ wordOf (ws.getD (p + 1 + u) 0) = some (.place x) := by
  unfold kidsT
  rw [List.mem_filterMap]
  constructor
  · rintro ⟨u, mu, e⟩
    refine ⟨u, List.mem_range.mp mu, ?_⟩
    split at e
    · rename_i y ey
      rw [ey, Option.some.inj e]
    · cases e
  · rintro ⟨u, hu, e⟩
    exact ⟨u, List.mem_range.mpr hu, by rw [e]⟩
theorem mem_placesW {hs : List Int} {x : Int} : x ∈ placesW hs ↔ ∃ w ∈ hs, wordOf w = some (.place x) := by
  unfold placesW
  rw [List.mem_filterMap]
  constructor
  · rintro ⟨w, mw, e⟩
    refine ⟨w, mw, ?_⟩
    split at e
    · rename_i y ey
      rw [ey, Option.some.inj e]
    · cases e
  · rintro ⟨w, mw, e⟩
    exact ⟨w, mw, by rw [e]⟩
theorem mem_told {ws hs : List Int} {ts : List V} {lw : List (Option (Int × Int))} {cs : List Nat} {x : Int} : x ∈ toldP ws hs ts lw cs ↔ (∃ w ∈ hs, wordOf w = some (.place x)) ∨ (∃ p ∈ cs, ∃ u, u < wAt ws p - 1 ∧ wordOf (ws.getD (p + 1 + u) 0) = some (.place x)) ∨ x ∈ namesI ts ∨ x ∈ lastsI lw := by
  unfold toldP
  rw [List.mem_append, List.mem_append, List.mem_append, mem_placesW, List.mem_flatten]
  have : (∃ l ∈ cs.map (kidsP ws), x ∈ l) ↔ ∃ p ∈ cs, ∃ u, u < wAt ws p - 1 ∧ wordOf (ws.getD (p + 1 + u) 0) = some (.place x) := by
    constructor
    · rintro ⟨l, ml, mx⟩
      obtain ⟨p, mp, rfl⟩ := List.mem_map.mp ml
      exact ⟨p, mp, mem_kids.mp mx⟩
    · rintro ⟨p, mp, h⟩
      exact ⟨_, List.mem_map.mpr ⟨p, mp, rfl⟩, mem_kids.mpr h⟩
  rw [this]
  constructor
  · rintro (((h | h) | h) | h)
    · exact .inl h
    · exact .inr (.inl h)
    · exact .inr (.inr (.inl h))
    · exact .inr (.inr (.inr h))
  · rintro (h | h | h | h)
    · exact .inl (.inl (.inl h))
    · exact .inl (.inl (.inr h))
    · exact .inl (.inr h)
    · exact .inr h
/-- what is planted -/
structure Pla (S : ArS) (U : RoS) (C : List CeL) (os ys : List Nat) (st bk ag : Bool) : Prop where
  g : Geo S C os ys
  st : st = true ↔ ∃ x ∈ toldP S.ws U.hs U.ts U.ws (os ++ ys), ∀ p ∈ os ++ ys, (p : Int) ≠ x
  bk : bk = false ↔ ∀ x, x ∈ U.bs ↔ x ∈ dueP S.ws os ys
  ag : ag = true ↔ (∃ p ∈ os, agAt S.ws p ≠ 2) ∨ ∃ p ∈ ys, agAt S.ws p = 2
section
variable {S : ArS} {U : RoS} {C : List CeL} {os ys : List Nat} {st bk ag : Bool}
/-- another word at a place: heads that stay as they are -/
theorem Geo.word (g : Geo S C os ys) {z : Nat} {n : Int} (hz : z < S.ws.length) (w : ∀ c ∈ C, wAt (S.ws.set z n) c.p = wAt S.ws c.p) (body : headAt n = none ∨ ∃ c ∈ C, z = c.p) : Geo { S with ws := S.ws.set z n } C os ys := by
  have wo : ∀ x ∈ os, wAt (S.ws.set z n) x = wAt S.ws x := fun x m => by
    obtain ⟨c, mc, rfl, -⟩ := (g.mo x).mp m
    exact w c mc
  have wy : ∀ x ∈ ys, wAt (S.ws.set z n) x = wAt S.ws x := fun x m => by
    obtain ⟨c, mc, rfl, -⟩ := (g.my x).mp m
    exact w c mc
  refine { g with w := fun c m => (w c m).trans (g.w c m), body := fun c m u hu => ?_, t1 := g.t1.cong wo, t2 := g.t2.cong wy, ln := (List.length_set ..).trans g.ln }
  show headAt ((S.ws.set z n).getD _ 0) = none
  rw [getD_set hz]
  split
  · rename_i e
    rcases body with h | ⟨d, md, rfl⟩
    · exact h
    · exfalso
      by_cases q : d = c
      · subst q
        omega
      · have := g.apart md m q
        omega
  · exact g.body c m u hu
theorem wAt_set {ws : List Int} {z p : Nat} {n : Int} (hz : z < ws.length) (ne : z ≠ p) : wAt (ws.set z n) p = wAt ws p := by
  unfold wAt
  rw [getD_set hz, if_neg ne]
theorem agAt_set {ws : List Int} {z p : Nat} {n : Int} (hz : z < ws.length) (ne : z ≠ p) : agAt (ws.set z n) p = agAt ws p := by
  unfold agAt
  rw [getD_set hz, if_neg ne]
/-- a place in a cell's body is no head, and no other cell's -/
theorem Geo.off (g : Geo S C os ys) {c d : CeL} {u v : Nat} (mc : c ∈ C) (md : d ∈ C) (hu : u < c.ws.length) : c.p + 1 + u ≠ d.p ∧ (v < d.ws.length → c.p + 1 + u = d.p + 1 + v → c = d ∧ u = v) := by
  by_cases q : c = d
  · subst q
    exact ⟨by omega, fun hv e => ⟨rfl, by omega⟩⟩
  · have := g.apart mc md q
    exact ⟨by omega, fun hv e => by omega⟩
theorem headAt_num {k : Nat} (h : k ≤ 34) (h2 : k % 4 ≤ 2) : headAt (2 * (k : Int)) = some k := by
  unfold headAt
  rw [word_num (by omega)]
  dsimp only
  rw [if_pos (by omega), Int.toNat_natCast]
theorem headAt_place {n : Int} (h0 : 0 ≤ n) (h1 : n ≤ 9999) : headAt (2 * n + 1) = none := by
  unfold headAt
  rw [word_place h0 h1]
def NoCe (C : List CeL) (x : Nat) : Prop := ∀ c ∈ C, c.p ≠ x
theorem Geo.no (g : Geo S C os ys) {x : Nat} (h : NoCe C x) : ∀ p ∈ os ++ ys, (p : Int) ≠ (x : Int) := fun p m e => by
  obtain ⟨c, mc, rfl⟩ := g.all.mp m
  exact h c mc (by omega)
theorem Pla.hand (P : Pla S U C os ys st bk ag) {x : Nat} (h : NoCe C x) (hx : x ≤ 9999) (h0 : 0 < U.hs.length) : Pla S { U with hs := U.hs.set 0 (2 * (x : Int) + 1) } C os ys true bk ag :=
  ⟨P.g, ⟨fun _ => ⟨x, mem_told.mpr (.inl ⟨_, List.mem_set h0 _, word_place (by omega) (by omega)⟩), P.g.no h⟩, fun _ => rfl⟩, P.bk, P.ag⟩
theorem Pla.name (P : Pla S U C os ys st bk ag) {x : Nat} (h : NoCe C x) : Pla S { U with ts := [.int (x : Int)] } C os ys true bk ag :=
  ⟨P.g, ⟨fun _ => ⟨x, mem_told.mpr (.inr (.inr (.inl (List.mem_singleton.mpr rfl)))), P.g.no h⟩, fun _ => rfl⟩, P.bk, P.ag⟩
theorem Pla.last (P : Pla S U C os ys st bk ag) {x : Nat} {b : Int} {rs : List V} (h : NoCe C x) : Pla S { U with ws := [some ((x : Int), b)], rs := rs } C os ys true bk ag :=
  ⟨P.g, ⟨fun _ => ⟨x, mem_told.mpr (.inr (.inr (.inr (List.mem_singleton.mpr rfl)))), P.g.no h⟩, fun _ => rfl⟩, P.bk, P.ag⟩
theorem Pla.book (P : Pla S U C os ys st false ag) {bs : List Int} {x : Int} (h : x ∈ bs ↔ ¬ x ∈ U.bs) : Pla S { U with bs := bs } C os ys st true ag :=
by
  refine ⟨P.g, P.st, ⟨fun z => (by cases z), fun z => ?_⟩, P.ag⟩
  have a := P.bk.mp rfl x
  have b : x ∈ bs ↔ _ := z x
  by_cases c : x ∈ bs
  · exact absurd (a.mpr (b.mp c)) (h.mp c)
  · exact absurd (b.mpr (a.mp (Decidable.byContradiction fun e => c (h.mpr e)))) c
theorem Geo.slot (g : Geo S C os ys) {c : CeL} (m : c ∈ C) (h0 : 0 < c.ws.length) {x : Nat} (hx : x ≤ 9999) : Geo { S with ws := S.ws.set (c.p + 1) (2 * (x : Int) + 1) } C os ys := by
  have e := g.end_ m
  exact g.word (by omega) (fun d md => wAt_set (by omega) (g.off (v := 0) (u := 0) m md h0).1) (.inl (headAt_place (by omega) (by omega)))
theorem Pla.slot (P : Pla S U C os ys st false ag) {c : CeL} (m : c ∈ C) (h0 : 0 < c.ws.length) {x : Nat} (h : NoCe C x) (hx : x ≤ 9999) {bs : List Int} (hb : ∀ z, z ∈ bs ↔ z ∈ U.bs ∧ z ≠ ((c.p + 1 : Nat) : Int)) :
    Pla { S with ws := S.ws.set (c.p + 1) (2 * (x : Int) + 1) } { U with bs := bs } C os ys true false ag := by
  have g' := P.g.slot m h0 hx
  have e := P.g.end_ m
  have wv : ∀ d ∈ C, wAt (S.ws.set (c.p + 1) (2 * (x : Int) + 1)) d.p = wAt S.ws d.p := fun d md => wAt_set (by omega) (P.g.off (v := 0) (u := 0) m md h0).1
  have av : ∀ d ∈ C, agAt (S.ws.set (c.p + 1) (2 * (x : Int) + 1)) d.p = agAt S.ws d.p := fun d md => agAt_set (by omega) (P.g.off (v := 0) (u := 0) m md h0).1
  refine ⟨g', ⟨fun _ => ⟨x, mem_told.mpr (.inr (.inl ⟨c.p, P.g.all.mpr ⟨c, m, rfl⟩, 0, ?_, ?_⟩)), P.g.no h⟩, fun _ => rfl⟩, ⟨fun _ z => ?_, fun _ => rfl⟩, ?_⟩
  · show 0 < wAt (S.ws.set _ _) c.p - 1
    rw [wv c m, P.g.w c m]
    omega
  · show wordOf ((S.ws.set (c.p + 1) _).getD (c.p + 1 + 0) 0) = _
    rw [getD_set (by omega), if_pos rfl]
    exact word_place (by omega) (by omega)
  · rw [hb z, P.bk.mp rfl z, mem_dueP, mem_dueP]
    constructor
    · rintro ⟨⟨p, mp, u, hu, rfl, y, my, ey⟩, ne⟩
      obtain ⟨d, md, rfl, -⟩ := (P.g.mo p).mp mp
      refine ⟨d.p, mp, u, by rw [wv d md]; exact hu, rfl, y, my, ?_⟩
      show wordOf ((S.ws.set (c.p + 1) _).getD _ 0) = _
      rw [getD_set (by omega), if_neg (fun z => ne (by omega))]
      exact ey
    · rintro ⟨p, mp, u, hu, rfl, y, my, ey⟩
      obtain ⟨d, md, rfl, -⟩ := (P.g.mo p).mp mp
      have ey : wordOf ((S.ws.set (c.p + 1) (2 * (x : Int) + 1)).getD (d.p + 1 + u) 0) = some (.place (y : Int)) := ey
      rw [getD_set (by omega)] at ey
      by_cases q : c.p + 1 = d.p + 1 + u
      · rw [if_pos q, word_place (by omega) (by omega)] at ey
        cases ey
        obtain ⟨b, mb, eb, -⟩ := (P.g.my x).mp my
        exact absurd eb (h b mb)
      · rw [if_neg q] at ey
        exact ⟨⟨d.p, mp, u, by rw [← wv d md]; exact hu, rfl, y, my, ey⟩, by omega⟩
  · rw [P.ag]
    show _ ↔ (∃ p ∈ os, agAt (S.ws.set _ _) p ≠ 2) ∨ ∃ p ∈ ys, agAt (S.ws.set _ _) p = 2
    constructor
    · rintro (⟨p, mp, q⟩ | ⟨p, mp, q⟩)
      · obtain ⟨d, md, rfl, -⟩ := (P.g.mo p).mp mp
        exact .inl ⟨_, mp, by rw [av d md]; exact q⟩
      · obtain ⟨d, md, rfl, -⟩ := (P.g.my p).mp mp
        exact .inr ⟨_, mp, by rw [av d md]; exact q⟩
    · rintro (⟨p, mp, q⟩ | ⟨p, mp, q⟩)
      · obtain ⟨d, md, rfl, -⟩ := (P.g.mo p).mp mp
        exact .inl ⟨_, mp, by rw [← av d md]; exact q⟩
      · obtain ⟨d, md, rfl, -⟩ := (P.g.my p).mp mp
        exact .inr ⟨_, mp, by rw [← av d md]; exact q⟩
theorem Pla.age (P : Pla S U C os ys st bk ag) {c : CeL} (m : c ∈ C) (h8 : c.ws.length ≤ 8) : Pla { S with ws := S.ws.set c.p (2 * ((4 * c.ws.length + (if c.p < S.n then 1 else 2) : Nat) : Int)) } U C os ys st bk true := by
  have e := P.g.end_ m
  have hd : headAt (2 * ((4 * c.ws.length + (if c.p < S.n then 1 else 2) : Nat) : Int)) = some (4 * c.ws.length + (if c.p < S.n then 1 else 2)) := headAt_num (by split <;> omega) (by split <;> omega)
  have wv : ∀ d ∈ C, wAt (S.ws.set c.p (2 * ((4 * c.ws.length + (if c.p < S.n then 1 else 2) : Nat) : Int))) d.p = wAt S.ws d.p := fun d md => by
    by_cases q : c.p = d.p
    · rw [P.g.w d md]
      have : c = d := P.g.same_p m md q
      subst this
      unfold wAt
      rw [getD_set (by omega), if_pos rfl, hd]
      dsimp only
      split <;> omega
    · exact wAt_set (by omega) q
  have ac : agAt (S.ws.set c.p (2 * ((4 * c.ws.length + (if c.p < S.n then 1 else 2) : Nat) : Int))) c.p = if c.p < S.n then 1 else 2 := by
    unfold agAt
    rw [getD_set (by omega), if_pos rfl, hd]
    dsimp only
    split <;> omega
  have bod : ∀ d ∈ C, ∀ u, u < wAt S.ws d.p - 1 → (S.ws.set c.p (2 * ((4 * c.ws.length + (if c.p < S.n then 1 else 2) : Nat) : Int))).getD (d.p + 1 + u) 0 = S.ws.getD (d.p + 1 + u) 0 := fun d md u hu => by
    rw [P.g.w d md] at hu
    rw [getD_set (by omega), if_neg fun z => (P.g.off (v := 0) (u := u) md m (by omega)).1 z.symm]
  refine ⟨P.g.word (by omega) wv (.inr ⟨c, m, rfl⟩), ?_, ?_, ⟨fun _ => ?_, fun _ => rfl⟩⟩
  · rw [P.st]
    have : ∀ x, x ∈ toldP S.ws U.hs U.ts U.ws (os ++ ys) ↔ x ∈ toldP (S.ws.set c.p (2 * ((4 * c.ws.length + (if c.p < S.n then 1 else 2) : Nat) : Int))) U.hs U.ts U.ws (os ++ ys) := fun x => by
      rw [mem_told, mem_told]
      have : (∃ p ∈ os ++ ys, ∃ u, u < wAt S.ws p - 1 ∧ wordOf (S.ws.getD (p + 1 + u) 0) = some (.place x)) ↔ ∃ p ∈ os ++ ys, ∃ u, u < wAt (S.ws.set c.p (2 * ((4 * c.ws.length + (if c.p < S.n then 1 else 2) : Nat) : Int))) p - 1 ∧ wordOf ((S.ws.set c.p (2 * ((4 * c.ws.length + (if c.p < S.n then 1 else 2) : Nat) : Int))).getD (p + 1 + u) 0) = some (.place x) := by
        constructor
        · rintro ⟨p, mp, u, hu, q⟩
          obtain ⟨d, md, rfl⟩ := P.g.all.mp mp
          exact ⟨d.p, mp, u, by rw [wv d md]; exact hu, by rw [bod d md u hu]; exact q⟩
        · rintro ⟨p, mp, u, hu, q⟩
          obtain ⟨d, md, rfl⟩ := P.g.all.mp mp
          rw [wv d md] at hu
          rw [bod d md u hu] at q
          exact ⟨d.p, mp, u, hu, q⟩
      rw [this]
    exact ⟨fun ⟨x, a, b⟩ => ⟨x, (this x).mp a, b⟩, fun ⟨x, a, b⟩ => ⟨x, (this x).mpr a, b⟩⟩
  · rw [P.bk]
    have : ∀ x, x ∈ dueP S.ws os ys ↔ x ∈ dueP (S.ws.set c.p (2 * ((4 * c.ws.length + (if c.p < S.n then 1 else 2) : Nat) : Int))) os ys := fun x => by
      rw [mem_dueP, mem_dueP]
      constructor
      · rintro ⟨p, mp, u, hu, rfl, y, my, q⟩
        obtain ⟨d, md, rfl, -⟩ := (P.g.mo p).mp mp
        exact ⟨d.p, mp, u, by rw [wv d md]; exact hu, rfl, y, my, by rw [bod d md u hu]; exact q⟩
      · rintro ⟨p, mp, u, hu, rfl, y, my, q⟩
        obtain ⟨d, md, rfl, -⟩ := (P.g.mo p).mp mp
        rw [wv d md] at hu
        rw [bod d md u hu] at q
        exact ⟨d.p, mp, u, hu, rfl, y, my, q⟩
    exact ⟨fun h x => (h x).trans (this x), fun h x => (h x).trans (this x).symm⟩
  · by_cases q : c.p < S.n
    · exact .inl ⟨c.p, (P.g.mo _).mpr ⟨c, m, rfl, q⟩, by show agAt (S.ws.set _ _) _ ≠ 2; rw [ac, if_pos q]; decide⟩
    · exact .inr ⟨c.p, (P.g.my _).mpr ⟨c, m, rfl, by omega⟩, by show agAt (S.ws.set _ _) _ = 2; rw [ac, if_neg q]⟩
/-- the last cell of an area with another head: cells don't end at the top -/
theorem tile_last {ws : List Int} {t : Nat} : ∀ {p : Nat} {ps : List Nat} {q : Nat}, Tile ws t p ps → q ∈ ps → (∀ x ∈ ps, x ≤ q) → ∃ qs, ps = qs ++ [q] ∧ q + wAt ws q = t
  | _, _, q, .nil, m, _ => (List.not_mem_nil m).elim
  | p, _, q, .cons (ps := ps) h w c, m, le => by
    by_cases e : ps = []
    · subst e
      rw [List.mem_singleton.mp m]
      refine ⟨[], rfl, ?_⟩
      cases c with
      | nil => rfl
    · have mq : q ∈ ps := by
        rcases List.mem_cons.mp m with e2 | m
        · exfalso
          cases ps with
          | nil => exact e rfl
          | cons x r =>
            have h1 := c.fit.2 x List.mem_cons_self
            have h2 := le x (List.mem_cons_of_mem _ List.mem_cons_self)
            omega
        · exact m
      obtain ⟨qs, e1, e2⟩ := tile_last c mq fun x m => le x (List.mem_cons_of_mem _ m)
      exact ⟨p :: qs, by rw [e1]; rfl, e2⟩
theorem spoil_walk {ws : List Int} {t b q : Nat} {ps : List Nat} {n : Int} (c : Tile ws t b ps) (m : q ∈ ps) (le : ∀ x ∈ ps, x ≤ q) (hz : q < ws.length) (k : ∀ x ∈ ps, x ≠ q → wAt (ws.set q n) x = wAt ws x) (h : walkL (ws.set q n) t q = none) : walkL (ws.set q n) t b = none := by
  obtain ⟨qs, e1, e2⟩ := tile_last c m le
  subst e1
  refine Tile.spoil c (fun x mx => ?_) h
  refine k x (List.mem_append_left _ mx) fun z => ?_
  subst z
  have : ∀ {p : Nat} {qs : List Nat}, Tile ws t p (qs ++ [x]) → x ∈ qs → False := by
    intro p qs
    induction qs generalizing p with
    | nil => exact fun _ m => (List.not_mem_nil m)
    | cons y r ih =>
      intro c m
      cases c with
      | cons h w c =>
        rcases List.mem_cons.mp m with rfl | m
        · have := c.fit.2 x (List.mem_append_right _ (List.mem_singleton.mpr rfl))
          omega
        · exact ih c m
  exact this c mx
end

local macro_rules | `(tactic| walk_at "w3") => `(tactic| try simp only [↓x_var0, ↓x_varS, ↓x_c, ↓x_op, ↓x_un, ↓x_cb, ↓x_nil, ↓x_cons, ↓x_test, ↓x_b, ↓x_ex, ↓x_and, ↓x_or, ↓x_not, ↓x_andV, ↓x_orV, ↓x_notV, ↓x_tif, ↓x_chain, ↓x_menu, ↓x_menuI, ↓x_lst, ↓x_tup, ↓x_dnew, ↓x_callW, ↓x_callN, ↓x_seq, ↓x_next, ↓x_ret, ↓x_retN, ↓x_drop, ↓x_ifS, ↓x_asg, ↓x_name, ↓x_raise, ↓x_fld, ↓x_setF, ↓x_meth, ↓x_make, ↓x_sub, ↓r_min, ↓r_max, ↓x_yes, ↓x_for, ↓x_lock, ↓x_keys, ↓x_cut, ↓x_lc, ↓x_rng1, ↓x_rng2, ↓x_lst1, ↓x_itup, ↓x_rng3, ↓x_three, ↓x_lstg, ↓x_tupg, ↓x_adrS, ↓x_one, ↓x_two, ↓x_adr, ↓x_sl, ↓x_np, ↓x_pt, ↓x_int, ↓x_bm, ↓x_bm0, ↓x_consg, ↓x_nilg, ↓x_dget2, ↓x_dget1, ↓x_dget, ↓x_din, ↓x_dni, ↓x_dput, ↓x_dpop2, ↓r_isB, ↓r_notB, ↓x_enum, ↓x_zip, ↓x_str, ↓x_strE, ↓r_inS, ↓r_ninS, wipe, List.map_cons, List.map_nil, ↓x_isT, ↓r_isiII, ↓r_isiBB, ↓r_isiIB, ↓r_isiSS, ↓r_neNS, ↓r_neSN, ↓r_neNN, ↓r_eqNS, ↓r_eqSN, ↓r_eqNN, ↓r_eqIS, ↓r_neIS, ↓r_neSI, ↓r_neBS, ↓r_eqBB, ↓r_neBB, ↓x_start, ↓x_K, ↓x_start0, ↓r_i0, ↓r_i, ↓r_u, ↓r_addI, ↓r_addS, ↓r_mulI, ↓r_mulS, ↓r_eqI, ↓r_neI, ↓r_eqS, ↓r_neS, ↓r_absI, ↓r_intI, ↓r_intB, List.length_cons, List.length_nil, List.replicate, List.set_cons_zero, List.set_cons_succ, decide_eq_true_eq, Bool.not_eq_true', decide_eq_false_iff_not, if_true, if_false, Bool.false_eq_true, Bool.true_eq_false, ite_true, ite_false, Bool.not_true, Bool.not_false, c_div, n_ten, c_pow, not_true_eq_false, not_false_eq_true, decide_true, decide_false, true_and, and_true, and_self, true_or, or_true, Int.reduceLT, Int.reduceLE, Int.reduceMul, Int.reduceAdd, Int.reduceSub, Int.reducePow, Int.reduceNeg, Int.reduceDiv, Int.reduceMod, Nat.reducePow, Int.reduceToNat, Int.reduceEq, Int.reduceNe, Nat.reduceLT, Nat.reduceLeDiff, Nat.reduceAdd, ↓x_whole, ↓x_kind, Int.natCast_one, Int.natCast_one])
/-- the heap while it is built -/
structure I20 (K : PySem.W.Frag) (G : HpA) (H : Hp) (S : ArS) (U : RoS) (C : List CeL) (os ys : List Nat) (j : Nat) : Prop where
  he : HeapO K H G S U
  ce : CelP S C
  cl : ∀ w ∈ U.hs, ClW C w ∧ headAt w = none
  cr : ∀ c ∈ C, ∀ w ∈ c.ws, ClW C w ∧ headAt w = none
  fl : S.fl = false
  bk : ∀ x, x ∈ U.bs ↔ x ∈ dueL S.n C
  ln : C.length ≤ j
  t1 : Tile S.ws S.ot 0 os
  t2 : Tile S.ws (S.t S.fl) (S.b S.fl) ys
  mo : ∀ x, x ∈ os ↔ ∃ c ∈ C, c.p = x ∧ x < S.n
  my : ∀ x, x ∈ ys ↔ ∃ c ∈ C, c.p = x ∧ S.n ≤ x
  ag : ∀ c ∈ C, agAt S.ws c.p = if c.p < S.n then 2 else 0
  tn : ∀ x ∈ namesI U.ts, ∃ c ∈ C, x = (c.p : Int)
  wn : ∀ x ∈ lastsI U.ws, ∃ c ∈ C, x = (c.p : Int)
section
variable {K : PySem.W.Frag} {G : HpA} {H H' : Hp} {S : ArS} {U : RoS} {C : List CeL} {os ys : List Nat} {j : Nat}
theorem I20.same (I : I20 K G H S U C os ys j) (s : Same H H') : I20 K G H' S U C os ys j := { I with he := I.he.same s }
theorem I20.lt (I : I20 K G H S U C os ys j) : ∀ c ∈ C, c.p + c.ws.length < S.ws.length := I.ce.lt I.he.ar.ln I.he.ar.lo (I.he.ar.lt _).2
theorem I20.s8 (I : I20 K G H S U C os ys j) : ∀ c ∈ C, c.ws.length ≤ 8 := fun c m => by
  obtain ⟨k, -, h1, h2⟩ := I.ce.head m (I.lt c m)
  omega
theorem I20.nd (I : I20 K G H S U C os ys j) : (dueL S.n C).Nodup := dueL_nd I.ce.dj
theorem I20.bl (I : I20 K G H S U C os ys j) : U.bs.length ≤ 8 * j := by
  have h1 := (List.perm_ext_iff_of_nodup I.he.ro.bo.nd I.nd).mpr I.bk
  have h2 := dueL_len (n := S.n) I.s8
  have := I.ln
  rw [h1.length_eq]
  omega
theorem I20.gt (I : I20 K G H S U C os ys j) {i : Nat} {c : CeL} (hi : i < U.hs.length) (m : c ∈ C) (e : wordOf (U.hs.getD i 0) = some (.place c.p)) {s : Nat} (hs : s < c.ws.length) : gtW S U.hs (.int (i : Int)) (.int (s : Int)) = .ok (c.p + 1 + s) c.p := by
  obtain ⟨k, h1, h2, -⟩ := I.ce.head m (I.lt c m)
  unfold gtW
  rw [placeOf_int, if_pos ⟨by omega, by omega⟩, Int.toNat_natCast]
  dsimp only
  rw [e]
  dsimp only
  rw [h1]
  dsimp only
  rw [h2, placeOf_int, if_pos ⟨by omega, by omega⟩, Int.toNat_natCast]
theorem wAt_cong {ws ws' : List Int} {p : Nat} (h : ws'.getD p 0 = ws.getD p 0) : wAt ws' p = wAt ws p := by
  unfold wAt
  rw [h]
theorem agAt_cong {ws ws' : List Int} {p : Nat} (h : ws'.getD p 0 = ws.getD p 0) : agAt ws' p = agAt ws p := by
  unfold agAt
  rw [h]
theorem CelP.wAt {S : ArS} {C : List CeL} (h : CelP S C) {c : CeL} (m : c ∈ C) : wAt S.ws c.p = c.ws.length + 1 := by
  obtain ⟨a, h1, h2⟩ := h.hd c m
  unfold Pr.wAt
  rw [h2]
  dsimp only
  omega
theorem I20.lay (I : I20 K G H S U C os ys j) {i s : Nat} (s8 : s ≤ 8) (fit : s + 1 ≤ endA S (inOld S s) - topA S (inOld S s)) (I' : HeapO K H' G (laidS S (inOld S s) s) { U with hs := U.hs.set i (2 * (topA S (inOld S s) : Int) + 1) }) :
    I20 K G H' (laidS S (inOld S s) s) { U with hs := U.hs.set i (2 * (topA S (inOld S s) : Int) + 1) } (C ++ [⟨topA S (inOld S s), G.g, List.replicate s (-1)⟩]) (if inOld S s then os ++ [topA S (inOld S s)] else os) (if inOld S s then ys else ys ++ [topA S (inOld S s)]) (j + 1) := by
  have hlt := I.he.ar.lt S.fl
  have hlo := I.he.ar.lo
  have hn := I.he.ar.gn
  have hk := I.he.ar.gk
  have hln := I.he.ar.ln
  have efl := I.fl
  have eb : S.b S.fl = S.n := by unfold ArS.b; rw [efl]; rfl
  have tl : topA S (inOld S s) + s < endA S (inOld S s) := by omega
  have el : endA S (inOld S s) ≤ S.n + S.k := by
    cases inOld S s
    · show S.b S.fl + S.k ≤ _
      omega
    · show S.n ≤ _
      omega
  have fr := I.ce.fresh (s := s) (old := inOld S s) hlo hlt.1 (by omega)
  obtain ⟨e1, e2, e3, e4⟩ := laidS_same (S := S) (old := inOld S s) (s := s)
  have off : ∀ c ∈ C, (laidS S (inOld S s) s).ws.getD c.p 0 = S.ws.getD c.p 0 := fun c m => laidS_off (by have := fr c m; omega)
  have hd := laidS_head (S := S) (old := inOld S s) (s := s) s8 (by omega)
  have wn : wAt (laidS S (inOld S s) s).ws (topA S (inOld S s)) = s + 1 := by
    unfold wAt
    rw [hd]
    dsimp only
    split <;> omega
  have an : agAt (laidS S (inOld S s) s).ws (topA S (inOld S s)) = if inOld S s then 2 else 0 := by
    unfold agAt
    rw [hd]
    dsimp only
    split <;> omega
  have cl' : ∀ {w : Int}, ClW C w → ClW (C ++ [⟨topA S (inOld S s), G.g, List.replicate s (-1)⟩]) w := fun h => h.mono fun c m => ⟨c, List.mem_append_left _ m, rfl⟩
  have wo : ∀ x ∈ os, wAt (laidS S (inOld S s) s).ws x = wAt S.ws x := fun x m => by
    obtain ⟨c, mc, rfl, -⟩ := (I.mo x).mp m
    exact wAt_cong (off c mc)
  have wy : ∀ x ∈ ys, wAt (laidS S (inOld S s) s).ws x = wAt S.ws x := fun x m => by
    obtain ⟨c, mc, rfl, -⟩ := (I.my x).mp m
    exact wAt_cong (off c mc)
  have tn : ∀ b, inOld S s = b → if b then topA S (inOld S s) < S.n else S.n ≤ topA S (inOld S s) := fun b e => by
    rw [e] at tl ⊢
    cases b
    · show S.n ≤ S.t S.fl
      omega
    · have : S.ot + s < S.n := tl
      show S.ot < S.n
      omega
  have mem : ∀ {x : Nat} {p : CeL → Prop}, (∃ c ∈ C ++ [⟨topA S (inOld S s), G.g, List.replicate s (-1)⟩], p c) ↔ (∃ c ∈ C, p c) ∨ p ⟨topA S (inOld S s), G.g, List.replicate s (-1)⟩ := fun {x p} => by
    constructor
    · rintro ⟨c, m, h⟩
      rcases List.mem_append.mp m with m | m
      · exact .inl ⟨c, m, h⟩
      · rw [List.mem_singleton.mp m] at h
        exact .inr h
    · rintro (⟨c, m, h⟩ | h)
      · exact ⟨c, List.mem_append_left _ m, h⟩
      · exact ⟨_, List.mem_append_right _ (List.mem_singleton.mpr rfl), h⟩
  refine { he := I', ce := I.ce.lay s8 hln hlo hlt.1 (by omega), cl := fun w m => ?_, cr := fun c m w mw => ?_, fl := e1.trans efl, bk := fun x => by rw [e2, due_lay]; exact I.bk x, ln := by rw [List.length_append]; have := I.ln; show C.length + 1 ≤ _; omega, t1 := ?_, t2 := ?_, mo := fun x => ?_, my := fun x => ?_, ag := fun c m => ?_, tn := fun x m => ?_, wn := fun x m => ?_ }
  · rcases List.mem_or_eq_of_mem_set m with m | rfl
    · exact ⟨cl' (I.cl w m).1, (I.cl w m).2⟩
    · exact ⟨ClW.cell (c := ⟨topA S (inOld S s), G.g, List.replicate s (-1)⟩) (List.mem_append_right _ (List.mem_singleton.mpr rfl)) (by show topA S (inOld S s) ≤ 9999; omega), headAt_place (by omega) (by omega)⟩
  · rcases List.mem_append.mp m with m | m
    · exact ⟨cl' (I.cr c m w mw).1, (I.cr c m w mw).2⟩
    · rw [List.mem_singleton.mp m] at mw
      rw [(List.mem_replicate.mp mw).2]
      exact ⟨ClW.non, rfl⟩
  · rw [laidS_ot]
    cases e : inOld S s
    · rw [e] at wo
      exact I.t1.cong wo
    · rw [e] at wo wn
      exact I.t1.snoc wo wn (by omega)
  · rw [e1, e4, laidS_t]
    cases e : inOld S s
    · rw [e] at wy wn
      exact I.t2.snoc wy wn (by omega)
    · rw [e] at wy
      exact I.t2.cong wy
  · rw [e2, mem (x := 0)]
    have t := tn _ rfl
    cases e : inOld S s
    · rw [e] at t
      have t : S.n ≤ topA S false := t
      rw [if_neg (by intro z; cases z), I.mo]
      exact ⟨.inl, fun h => h.elim id fun z => by have : topA S false = x := z.1; omega⟩
    · rw [e] at t
      have t : topA S true < S.n := t
      rw [if_pos rfl, List.mem_append, List.mem_singleton, I.mo]
      exact or_congr Iff.rfl ⟨fun z => ⟨z.symm, by omega⟩, fun z => z.1.symm⟩
  · rw [e2, mem (x := 0)]
    have t := tn _ rfl
    cases e : inOld S s
    · rw [e] at t
      have t : S.n ≤ topA S false := t
      rw [if_neg (by intro z; cases z), List.mem_append, List.mem_singleton, I.my]
      exact or_congr Iff.rfl ⟨fun z => ⟨z.symm, by omega⟩, fun z => z.1.symm⟩
    · rw [e] at t
      have t : topA S true < S.n := t
      rw [if_pos rfl, I.my]
      exact ⟨.inl, fun h => h.elim id fun z => by have : topA S true = x := z.1; omega⟩
  · rw [e2]
    rcases List.mem_append.mp m with m | m
    · rw [agAt_cong (off c m)]
      exact I.ag c m
    · rw [List.mem_singleton.mp m]
      show agAt _ (topA S (inOld S s)) = if topA S (inOld S s) < S.n then 2 else 0
      rw [an]
      have t := tn _ rfl
      cases e : inOld S s
      · rw [e] at t
        have t : S.n ≤ topA S false := t
        rw [if_neg (by intro z; cases z), if_neg (by omega)]
      · rw [e] at t
        have t : topA S true < S.n := t
        rw [if_pos rfl, if_pos t]
  · obtain ⟨c, mc, e⟩ := I.tn x m
    exact ⟨c, List.mem_append_left _ mc, e⟩
  · obtain ⟨c, mc, e⟩ := I.wn x m
    exact ⟨c, List.mem_append_left _ mc, e⟩
theorem book_put {S : ArS} {C : List CeL} {bs : List Int} (h : CelP S C) (fl : S.fl = false) (lo : S.ot ≤ S.n) (bk : ∀ x, x ∈ bs ↔ x ∈ dueL S.n C) {c : CeL} {s : Nat} {w : Int} (m : c ∈ C) (hs : s < c.ws.length) (cw : ClW C w) (x : Int) : x ∈ bookW S bs c.p (c.p + 1 + s) w ↔ x ∈ dueL S.n (setC C c.p s w) := by
  rw [due_set h m hs, ← bk x]
  have eo := old_is h fl lo m
  have ey := yng_is h fl lo cw
  unfold bookW
  by_cases g : areaW S c.p = .str "old" ∧ yngW S w = true
  · rw [if_pos g, mem_addP]
    have g1 := eo.mp g.1
    have g2 := ey.mp g.2
    constructor
    · rintro (h | h)
      · by_cases e : x = ((c.p + 1 + s : Nat) : Int)
        · exact .inr ⟨e, by omega, g2⟩
        · exact .inl ⟨h, e⟩
      · exact .inr ⟨h, by omega, g2⟩
    · rintro (h | h)
      · exact .inl h.1
      · exact .inr h.1
  · rw [if_neg g, mem_delP]
    constructor
    · exact fun h => .inl h
    · rintro (h | ⟨-, h1, h2⟩)
      · exact h
      · exact absurd ⟨eo.mpr (by omega), ey.mpr h2⟩ g
theorem I20.put (I : I20 K G H S U C os ys j) {c : CeL} {s : Nat} {w : Int} (m : c ∈ C) (hs : s < c.ws.length) (cw : ClW C w) (hw : headAt w = none) (I' : HeapO K H' G { S with ws := S.ws.set (c.p + 1 + s) w } { U with bs := bookW S U.bs c.p (c.p + 1 + s) w }) :
    I20 K G H' { S with ws := S.ws.set (c.p + 1 + s) w } { U with bs := bookW S U.bs c.p (c.p + 1 + s) w } (setC C c.p s w) os ys j := by
  have l := I.lt c m
  have cl' : ∀ {w' : Int}, ClW C w' → ClW (setC C c.p s w) w' := fun h => h.mono fun a m => ⟨_, List.mem_map.mpr ⟨a, m, rfl⟩, by split <;> rfl⟩
  have hp : ∀ d ∈ C, (S.ws.set (c.p + 1 + s) w).getD d.p 0 = S.ws.getD d.p 0 := fun d md => by
    rw [getD_set (by omega), if_neg ?_]
    by_cases e : c = d
    · subst e
      omega
    · have := I.ce.apart m md e
      omega
  have back : ∀ b ∈ setC C c.p s w, ∃ a ∈ C, b.p = a.p := fun b mb => by
    obtain ⟨a, ma, e, -⟩ := setC_mem mb
    exact ⟨a, ma, e⟩
  have forth : ∀ a ∈ C, ∃ b ∈ setC C c.p s w, b.p = a.p := fun a ma => ⟨_, List.mem_map.mpr ⟨a, ma, rfl⟩, by split <;> rfl⟩
  have ex : ∀ {p : Nat → Prop}, (∃ b ∈ setC C c.p s w, p b.p) ↔ ∃ a ∈ C, p a.p := fun {p} => by
    constructor
    · rintro ⟨b, mb, h⟩
      obtain ⟨a, ma, e⟩ := back b mb
      exact ⟨a, ma, e ▸ h⟩
    · rintro ⟨a, ma, h⟩
      obtain ⟨b, mb, e⟩ := forth a ma
      exact ⟨b, mb, e.symm ▸ h⟩
  refine { he := I', ce := I.ce.put m hs l, cl := fun w' m' => ⟨cl' (I.cl w' m').1, (I.cl w' m').2⟩, cr := fun b mb w' mw => ?_, fl := I.fl, bk := book_put I.ce I.fl I.he.ar.lo I.bk m hs cw, ln := by rw [setC_len]; exact I.ln, t1 := I.t1.cong fun x mx => ?_, t2 := I.t2.cong fun x mx => ?_, mo := fun x => ?_, my := fun x => ?_, ag := fun b mb => ?_, tn := fun x mx => ?_, wn := fun x mx => ?_ }
  · obtain ⟨a, ma, -, -, -, ⟨ea, e⟩ | ⟨ne, rfl⟩⟩ := setC_mem mb
    · rw [e] at mw
      rcases List.mem_or_eq_of_mem_set mw with m | rfl
      · exact ⟨cl' (I.cr a ma w' m).1, (I.cr a ma w' m).2⟩
      · exact ⟨cl' cw, hw⟩
    · exact ⟨cl' (I.cr b ma w' mw).1, (I.cr b ma w' mw).2⟩
  · obtain ⟨d, md, rfl, -⟩ := (I.mo x).mp mx
    exact wAt_cong (hp d md)
  · obtain ⟨d, md, rfl, -⟩ := (I.my x).mp mx
    exact wAt_cong (hp d md)
  · rw [I.mo]
    exact (ex (p := fun q => q = x ∧ x < S.n)).symm
  · rw [I.my]
    exact (ex (p := fun q => q = x ∧ S.n ≤ x)).symm
  · obtain ⟨a, ma, e⟩ := back b mb
    show agAt (S.ws.set _ _) b.p = if b.p < S.n then 2 else 0
    rw [e, agAt_cong (hp a ma)]
    exact I.ag a ma
  · obtain ⟨a, ma, e⟩ := I.tn x mx
    exact (ex (p := fun q => x = (q : Int))).mpr ⟨a, ma, e⟩
  · obtain ⟨a, ma, e⟩ := I.wn x mx
    exact (ex (p := fun q => x = (q : Int))).mpr ⟨a, ma, e⟩
theorem cell_of_word {C : List CeL} {w : Int} {x : Int} (h : ClW C w) (e : wordOf w = some (.place x)) : ∃ c ∈ C, x = (c.p : Int) := h.2 x e
theorem I20.geo (I : I20 K G H S U C os ys j) : Geo S C os ys :=
  { dj := I.ce.dj, ar := I.ce.ar, w := fun c m => I.ce.wAt m, body := fun c m u hu => by
      rw [I.ce.sl c m u hu]
      refine (I.cr c m _ ?_).2
      rw [List.getD_eq_getElem?_getD, List.getElem?_eq_getElem hu]
      exact List.getElem_mem hu
    t1 := I.t1, t2 := I.t2, mo := I.mo, my := I.my, fl := I.fl, lo := I.he.ar.lo, ln := I.he.ar.ln, lt := by
      have := I.he.ar.lt S.fl
      have e : S.b S.fl = S.n := by unfold ArS.b; rw [I.fl]; rfl
      omega }
theorem I20.pla (I : I20 K G H S U C os ys j) : Pla S U C os ys false false false := by
  have g := I.geo
  have sl : ∀ c ∈ C, ∀ u, u < c.ws.length → ClW C (S.ws.getD (c.p + 1 + u) 0) := fun c m u hu => by
    rw [I.ce.sl c m u hu]
    refine (I.cr c m _ ?_).1
    rw [List.getD_eq_getElem?_getD, List.getElem?_eq_getElem hu]
    exact List.getElem_mem hu
  refine ⟨g, ⟨fun z => (by cases z), ?_⟩, ⟨fun _ x => ?_, fun _ => rfl⟩, ⟨fun z => (by cases z), ?_⟩⟩
  · rintro ⟨x, mx, nx⟩
    exfalso
    have no : ¬ ∃ c ∈ C, x = (c.p : Int) := fun ⟨c, m, e⟩ => nx c.p (g.all.mpr ⟨c, m, rfl⟩) e.symm
    rcases mem_told.mp mx with ⟨w, mw, e⟩ | ⟨p, mp, u, hu, e⟩ | h | h
    · exact no ((I.cl w mw).1.2 x e)
    · obtain ⟨c, mc, rfl⟩ := g.all.mp mp
      rw [g.w c mc] at hu
      exact no ((sl c mc u (by omega)).2 x e)
    · exact no (I.tn x h)
    · exact no (I.wn x h)
  · rw [I.bk x, mem_dueL, mem_dueP]
    constructor
    · rintro ⟨c, m, s, hs, rfl, h1, h2, h3⟩
      refine ⟨c.p, (I.mo _).mpr ⟨c, m, rfl, by omega⟩, s, by rw [g.w c m]; omega, rfl, ?_⟩
      rw [I.ce.sl c m s hs]
      have cw := (I.cr c m (c.ws.getD s 0) (by rw [List.getD_eq_getElem?_getD, List.getElem?_eq_getElem hs]; exact List.getElem_mem hs)).1
      cases e : wordOf (c.ws.getD s 0) with
      | none =>
        have := cw.1
        rw [e] at this
        cases this
      | some y =>
        cases y with
        | place p =>
          obtain ⟨d, md, rfl⟩ := cw.2 p e
          have := cl_word e
          exact ⟨d.p, (I.my _).mpr ⟨d, md, rfl, by omega⟩, rfl⟩
        | _ => exact absurd ⟨h2, by omega⟩ (wd_odd e fun p z => by cases z)
    · rintro ⟨p, mp, u, hu, rfl, y, my, e⟩
      obtain ⟨c, mc, rfl, hc⟩ := (I.mo p).mp mp
      obtain ⟨d, md, rfl, hd⟩ := (I.my y).mp my
      rw [g.w c mc] at hu
      rw [I.ce.sl c mc u (by omega)] at e
      have := cl_word e
      exact ⟨c, mc, u, by omega, rfl, by omega, by omega, by omega⟩
  · rintro (⟨p, mp, h⟩ | ⟨p, mp, h⟩)
    · obtain ⟨c, mc, rfl, hc⟩ := (I.mo p).mp mp
      rw [I.ag c mc, if_pos hc] at h
      exact absurd rfl h
    · obtain ⟨c, mc, rfl, hc⟩ := (I.my p).mp mp
      rw [I.ag c mc, if_neg (by omega)] at h
      cases h
end

local macro_rules | `(tactic| walk_at "w3") => `(tactic| try simp only [↓x_var0, ↓x_varS, ↓x_c, ↓x_op, ↓x_un, ↓x_cb, ↓x_nil, ↓x_cons, ↓x_test, ↓x_b, ↓x_ex, ↓x_and, ↓x_or, ↓x_not, ↓x_andV, ↓x_orV, ↓x_notV, ↓x_tif, ↓x_chain, ↓x_menu, ↓x_menuI, ↓x_lst, ↓x_tup, ↓x_dnew, ↓x_callW, ↓x_callN, ↓x_seq, ↓x_next, ↓x_ret, ↓x_retN, ↓x_drop, ↓x_ifS, ↓x_asg, ↓x_name, ↓x_raise, ↓x_fld, ↓x_setF, ↓x_meth, ↓x_make, ↓x_sub, ↓r_min, ↓r_max, ↓x_yes, ↓x_for, ↓x_lock, ↓x_keys, ↓x_cut, ↓x_lc, ↓x_rng1, ↓x_rng2, ↓x_lst1, ↓x_itup, ↓x_rng3, ↓x_three, ↓x_lstg, ↓x_tupg, ↓x_adrS, ↓x_one, ↓x_two, ↓x_adr, ↓x_sl, ↓x_np, ↓x_pt, ↓x_int, ↓x_bm, ↓x_bm0, ↓x_consg, ↓x_nilg, ↓x_dget2, ↓x_dget1, ↓x_dget, ↓x_din, ↓x_dni, ↓x_dput, ↓x_dpop2, ↓r_isB, ↓r_notB, ↓x_enum, ↓x_zip, ↓x_str, ↓x_strE, ↓r_inS, ↓r_ninS, wipe, List.map_cons, List.map_nil, ↓x_isT, ↓r_isiII, ↓r_isiBB, ↓r_isiIB, ↓r_isiSS, ↓r_neNS, ↓r_neSN, ↓r_neNN, ↓r_eqNS, ↓r_eqSN, ↓r_eqNN, ↓r_eqIS, ↓r_neIS, ↓r_neSI, ↓r_neBS, ↓r_eqBB, ↓r_neBB, ↓x_start, ↓x_K, ↓x_start0, ↓r_i0, ↓r_i, ↓r_u, ↓r_addI, ↓r_addS, ↓r_mulI, ↓r_mulS, ↓r_eqI, ↓r_neI, ↓r_eqS, ↓r_neS, ↓r_absI, ↓r_intI, ↓r_intB, List.length_cons, List.length_nil, List.replicate, List.set_cons_zero, List.set_cons_succ, decide_eq_true_eq, Bool.not_eq_true', decide_eq_false_iff_not, if_true, if_false, Bool.false_eq_true, Bool.true_eq_false, ite_true, ite_false, Bool.not_true, Bool.not_false, c_div, n_ten, c_pow, not_true_eq_false, not_false_eq_true, decide_true, decide_false, true_and, and_true, and_self, true_or, or_true, Int.reduceLT, Int.reduceLE, Int.reduceMul, Int.reduceAdd, Int.reduceSub, Int.reducePow, Int.reduceNeg, Int.reduceDiv, Int.reduceMod, Nat.reducePow, Int.reduceToNat, Int.reduceEq, Int.reduceNe, Nat.reduceLT, Nat.reduceLeDiff, Nat.reduceAdd, ↓x_whole, ↓x_kind, Int.natCast_one, Int.natCast_one])
def sp_made20 (K : PySem.W.Frag) : Sp := fun vs H Q _ => ∃ G S U, ∃ i s : Nat, vs = [.ref G.g, .int i, .int s] ∧ HeapO K H G S U ∧ i < U.hs.length ∧ s ≤ 8 ∧
    (s + 1 ≤ endA S (inOld S s) - topA S (inOld S s) → ∀ H', HeapO K H' G (laidS S (inOld S s) s) { U with hs := U.hs.set i (2 * (topA S (inOld S s) : Int) + 1) } → (∀ b o, b ≠ G.A.l → b ≠ G.A.o → b ≠ G.A.p → b ≠ G.A.q → b ≠ G.R.hl → H b = some o → H' b = some o) → Q (.bl true) H') ∧
    (¬ s + 1 ≤ endA S (inOld S s) - topA S (inOld S s) → ∀ H', Same H H' → Q (.bl false) H')
/-- all but the heap's own things stays -/
def Kp (G : HpA) (bd : Addr) (H H' : Hp) : Prop := ∀ b o, b ≠ G.A.l → b ≠ G.A.o → b ≠ G.A.p → b ≠ G.A.q → b ≠ G.R.hl → b ≠ bd → H b = some o → H' b = some o
def psC (C : List CeL) : List Int := C.map fun c => (c.p : Int)
def sp_filled (K : PySem.W.Frag) : Sp := fun vs H Q _ => ∃ G S U C os ys j, ∃ c : Int, vs = [.ref G.g, .int c] ∧ I20 K G H S U C os ys j ∧ U.hs.length = 3 ∧ j < 1000 ∧
  ∀ S' U' C' os' ys' ns H' p, I20 K G H' S' U' C' os' ys' (j + 1) → U'.hs.length = 3 → U'.bd = U.bd → U'.ts = U.ts → U'.ws = U.ws → U'.ss = U.ss → S'.n = S.n → psC C' = psC C ++ ns → H p = none → H' p = some (.lst (ns.map V.int)) → OffL G p → Kp G U.bd H H' → Q (.ref p) H'
theorem HeapO.offl {K H G S T} (h : HeapO K H G S T) {p : Addr} (np : H p = none) : OffL G p := ⟨(ne_of_none h.ar.me.ls np).symm, (ne_of_none h.ro.ho.ls np).symm, (ne_of_none h.ro.wo.ls np).symm, (ne_of_none h.ro.lo.wa np).symm, (ne_of_none h.ro.lo.sk np).symm⟩
section
variable {P : Program} {w : World} {K : PySem.W.Frag} {mg : Str → Option Value} {base : Heap}
theorem f__law_made (T : Tx K mg) : Fn P w K mg base 9 "_law_made" ["_law_heap", "_law_hand", "_law_slots"] (sp_made20 K) := by
  have c_Heap_make := f_Heap_make (P := P) (w := w) (base := base) T
  refine T.mkFn 77 41 (d := d__law_made) (N := ["_law_heap", "_law_hand", "_law_slots"]) (k := 8) rfl rfl rfl rfl rfl sc__law_made (fun _ _ _ _ _ _ us hl => match us, hl with | [_, _, _], _ => rfl) (fun vs H Q E h => ?len) (fun cdv A outer s H vs Q E hr h => ⟨_,
      (pss_cons (ps_try_many rfl rfl (takes_of rfl rfl rfl rfl) (fun W pn xe tk po => (pss_one (ps_expr (pe_mt (K := K) rfl tk (pv 0) c_Heap_make (hr.mono (by decide)) (pa_cons (pv 1) (pa_cons (pv 2) pa_nil)))))) (.cons ⟨by rfl, by decide, Or.inl (T.glo 0)⟩ (fun a oe cls d pn hz hf => (pss_one (ps_ret pe_bl))) .nil))
        (pss_one (ps_ret pe_bl))), ?rd⟩)
  case len => first | exact len__law_made h | (repeat (first | (obtain ⟨rfl, _⟩ := h; rfl; done) | obtain ⟨_, h⟩ := h))
  case rd =>
    obtain ⟨G, S, U, i, s, rfl, I, hi, s8, q1, q2⟩ := h
    walk_at "w3"
    refine ⟨recv I.ob, G, S, U, _, _, rfl, I, .inl ⟨_, rfl⟩, .inl ⟨_, rfl⟩, ?_⟩
    rw [mk_fits hi s8]
    split
    · rename_i e
      split at e <;> cases e
    · rename_i e
      split at e <;> cases e
    · rename_i e
      have c : ¬ s + 1 ≤ endA S (inOld S s) - topA S (inOld S s) := fun c => by rw [if_pos c] at e; cases e
      refine T.caughtU (by decide +kernel) (by decide +kernel) (by decide +kernel) fun a ha => ?_
      walk_at "w3"
      exact q2 c _ (Same.refl _)
    · rename_i i' s' e
      have c : s + 1 ≤ endA S (inOld S s) - topA S (inOld S s) := Decidable.byContradiction fun c => by rw [if_neg c] at e; cases e
      rw [if_pos c] at e
      cases e
      intro H' I' k
      walk_at "w3"
      exact q1 c H' I' k
theorem f__law_filled (T : Tx K mg) : Fn P w K mg base 10 "_law_filled" ["_law_heap", "_law_cell"] (sp_filled K) := by
  have c__law_made := f__law_made (P := P) (w := w) (base := base) T
  have c_Heap_held := f_Heap_held (P := P) (w := w) (base := base) T
  have c_Heap_put := f_Heap_put (P := P) (w := w) (base := base) T
  refine T.mkFn 78 42 (d := d__law_filled) (N := ["_law_heap", "_law_cell", "_law_hand", "_law_made_here", "_law_at", "_law_slot"]) (k := 9) rfl rfl rfl rfl rfl sc__law_filled (fun _ _ _ _ _ _ us hl => match us, hl with | [_, _], _ => rfl) (fun vs H Q E h => ?len) (fun cdv A outer s H vs Q E hr h => ⟨_,
      (pss_cons (ps_set (i := 2) sc__law_filled.nd rfl (Or.inl rfl) (pe_op op_mod (pv 1) pe_int))
        (pss_cons (ps_set (i := 3) sc__law_filled.nd rfl (Or.inl rfl) (pe_fn (takes_of rfl rfl rfl rfl) c__law_made (hr.mono (by decide)) (by rfl) (pa_cons (pv 0) (pa_cons (pv 2) (pa_cons (pe_op op_mod (pe_op op_fdiv (pv 1) pe_int) pe_int) pa_nil)))))
        (pss_cons (ps_set (i := 4) sc__law_filled.nd rfl (Or.inl rfl) (pe_mt (K := K) rfl (takes_of rfl rfl rfl rfl) (pv 0) c_Heap_held (hr.mono (by decide)) (pa_cons (pe_op op_mod (pe_op op_fdiv (pv 1) pe_int) pe_int) pa_nil)))
        (pss_cons (ps_for (passes_of rfl) rfl (pi_range1 rfl (T.free 61) (pa_cons (pe_op op_gMul (pe_op op_mod (pe_op op_fdiv (pv 1) pe_int) pe_int) (pe_callTy call_gInt (by rfl) (T.free 66) (by decide +kernel) (pa_cons (pv 3) pa_nil))) pa_nil)) (pg_name (i := 5) sc__law_filled.nd rfl (Or.inl rfl)) (pss_one (ps_expr (pe_mt (K := K) rfl (takes_of rfl rfl rfl rfl) (pv 0) c_Heap_put (hr.mono (by decide)) (pa_cons (pv 2) (pa_cons (pv 5) (pa_cons (pe_menu (pa_cons (pe_un un_neg pe_int) (pa_cons pe_int (pa_cons (pe_mt (K := K) rfl (takes_of rfl rfl rfl rfl) (pv 0) c_Heap_held (hr.mono (by decide)) (pa_cons (pv 2) pa_nil)) (pa_cons (pv 4) pa_nil)))) (pe_op op_mod (pe_op op_gAdd (pe_op op_fdiv (pv 1) pe_int) (pv 5)) pe_int) (fun _ _ => rfl)) pa_nil)))))))
        (pss_one (ps_ret (pe_op op_gMul (pe_lst (pa_cons (pe_op op_fdiv (pe_mt (K := K) rfl (takes_of rfl rfl rfl rfl) (pv 0) c_Heap_held (hr.mono (by decide)) (pa_cons (pv 2) pa_nil)) pe_int) pa_nil)) (pe_callTy call_gInt (by rfl) (T.free 66) (by decide +kernel) (pa_cons (pv 3) pa_nil))))))))), ?rd⟩)
  case len => first | exact len__law_filled h | (repeat (first | (obtain ⟨rfl, _⟩ := h; rfl; done) | obtain ⟨_, h⟩ := h))
  case rd =>
    obtain ⟨G, S, U, C, os, ys, j, c, rfl, I, h3, hj, q⟩ := h
    have sz : 1000 ≤ sizeLine := by rw [sizeLine_eq]; omega
    walk_at "w3"
    obtain ⟨i, ei, hi⟩ : ∃ i : Nat, c % 3 = (i : Int) ∧ i < 3 := ⟨(c % 3).toNat, by omega, by omega⟩
    obtain ⟨s, es, hs⟩ : ∃ s : Nat, c / 3 % 9 = (s : Int) ∧ s ≤ 8 := ⟨(c / 3 % 9).toNat, by omega, by omega⟩
    obtain ⟨o, eo, ho⟩ : ∃ o : Nat, c / 27 % 3 = (o : Int) ∧ o < 3 := ⟨(c / 27 % 3).toNat, by omega, by omega⟩
    rw [ei, es, eo]
    refine ⟨G, S, U, i, s, rfl, I.he, by omega, hs, fun fit H1 I1 k1 => ?_, fun nf H1 s1 => ?_⟩
    · have U1l : (U.hs.set i (2 * (topA S (inOld S s) : Int) + 1)).length = 3 := (List.length_set ..).trans h3
      have top8 : topA S (inOld S s) ≤ 9999 := by
        have hlt := I.he.ar.lt S.fl
        have hn := I.he.ar.gn
        have hk := I.he.ar.gk
        have : endA S (inOld S s) ≤ S.n + 2 * S.k := by
          cases inOld S s
          · show S.b S.fl + S.k ≤ _
            unfold ArS.b
            split <;> omega
          · show S.n ≤ _
            omega
        omega
      have J1 := I.lay hs fit I1
      have kp1 : Kp G U.bd H H1 := fun b o h1 h2 h3 h4 h5 _ g => k1 b o h1 h2 h3 h4 h5 g
      obtain ⟨S1, eS1⟩ : ∃ S1, S1 = laidS S (inOld S s) s := ⟨_, rfl⟩
      obtain ⟨top, etop⟩ : ∃ t, t = topA S (inOld S s) := ⟨_, rfl⟩
      obtain ⟨os1, eos1⟩ : ∃ o, o = if inOld S s then os ++ [topA S (inOld S s)] else os := ⟨_, rfl⟩
      obtain ⟨ys1, eys1⟩ : ∃ o, o = if inOld S s then ys else ys ++ [topA S (inOld S s)] := ⟨_, rfl⟩
      have n1 : S1.n = S.n := by rw [eS1]; exact laidS_same.2.1
      rw [← eS1, ← etop] at I1
      rw [← eS1, ← eos1, ← eys1, ← etop] at J1
      rw [← etop] at U1l top8
      have wt : wordOf (2 * (top : Int) + 1) = some (.place top) := word_place (by omega) (by omega)
      clear eS1 eos1 eys1 fit k1
      walk_at "w3"
      refine ⟨recv I1.ob, G, S1, _, _, rfl, I1, .inl ⟨_, rfl⟩, ?_⟩
      dsimp only
      rw [placeOf_int, if_pos ⟨by omega, by omega⟩, Int.toNat_natCast]
      dsimp only
      obtain ⟨wo, ewo⟩ : ∃ wo, wo = (U.hs.set i (2 * (top : Int) + 1)).getD o 0 := ⟨_, rfl⟩
      rw [← ewo]
      have cwo := J1.cl wo (by rw [ewo]; exact List.mem_of_getElem? (getD_at (d := 0) (show o < (U.hs.set i (2 * (top : Int) + 1)).length by omega)))
      refine ⟨by omega, by omega, ?_⟩
      rw [show ((s : Int) * 1).toNat = s from by omega]
      refine forW_range (fun t σ H2 => ∃ S2 U2 C2 o5, σ = [some (.ref G.g), some (.int c), some (.int (i : Int)), some (.bl true), some (.int wo), o5] ∧ I20 K G H2 S2 U2 C2 os1 ys1 (j + 1) ∧ U2.hs = U.hs.set i (2 * (top : Int) + 1) ∧ U2.bd = U.bd ∧ U2.ts = U.ts ∧ U2.ws = U.ws ∧ U2.ss = U.ss ∧ S2.n = S.n ∧ psC C2 = psC C ++ [(top : Int)] ∧ (∃ d ∈ C2, d.p = top ∧ d.ws.length = s) ∧ Kp G U.bd H H2) ⟨S1, _, _, _, rfl, J1, rfl, rfl, rfl, rfl, rfl, n1, ?_, ⟨_, List.mem_append_right _ (List.mem_singleton.mpr rfl), rfl, List.length_replicate⟩, kp1⟩ ?_ ?_
      · unfold psC
        rw [List.map_append]
        rfl
      · rintro t σ H2 ht ⟨S2, U2, C2, o5, rfl, J, eh, ebd, ets, ews, ess, en, eps, ⟨d, md, dp, dl⟩, kp⟩
        have l2 : U2.hs.length = 3 := by rw [eh]; exact U1l
        have hw : U2.hs.getD i 0 = 2 * (top : Int) + 1 := by rw [eh, getD_set (by omega), if_pos rfl]
        have mo : wo ∈ U2.hs := by rw [eh, ewo]; exact List.mem_of_getElem? (getD_at (d := 0) (by omega))
        have mi : U2.hs.getD i 0 ∈ U2.hs := List.mem_of_getElem? (getD_at (d := 0) (by omega))
        walk_at "w3"
        rw [Int.zero_add]
        refine ⟨recv J.he.ob, recv J.he.ob, G, S2, U2, _, rfl, J.he, .inl ⟨_, rfl⟩, ?_⟩
        rw [placeOf_int, if_pos ⟨by omega, by omega⟩, Int.toNat_natCast]
        dsimp only
        have gw : ∀ x ∈ U2.hs, ClW C2 x ∧ headAt x = none := J.cl
        refine ⟨by omega, menu_pick (fun v => ∃ n, v = .int n ∧ ClW C2 n ∧ headAt n = none) ?_ ?_⟩
        · have : (c / 81 + (t : Int)) % 4 = 0 ∨ (c / 81 + (t : Int)) % 4 = 1 ∨ (c / 81 + (t : Int)) % 4 = 2 ∨ (c / 81 + (t : Int)) % 4 = 3 := by omega
          rcases this with g | g | g | g <;> rw [g]
          · exact ⟨_, rfl, _, rfl, ClW.non, rfl⟩
          · exact ⟨_, rfl, _, rfl, ClW.num (n := 3) (by decide), rfl⟩
          · exact ⟨_, rfl, _, rfl, gw _ mi⟩
          · exact ⟨_, rfl, _, rfl, gw _ mo⟩
        · rintro v ⟨n, rfl, cw, hn⟩
          have g := J.gt (i := i) (c := d) (s := t) (by omega) md (by rw [hw, dp]; exact wt) (by omega)
          have l := J.lt d md
          have b := J.bl
          refine ⟨G, S2, U2, _, _, _, rfl, J.he, (fun p a e => by rw [g] at e; cases e; omega), by omega, .inl ⟨_, rfl⟩, .inl ⟨_, rfl⟩, .inl ⟨_, rfl⟩, ?_⟩
          rw [g]
          dsimp only
          rw [wordV_int, if_pos cw.1]
          intro H3 I3 k3
          have J3 := J.put md (s := t) (by omega) cw hn I3
          refine ⟨_, _, _, _, rfl, J3, eh, ebd, ets, ews, ess, en, ?_, ?_, fun b o h1 h2 h3 h4 h5 h6 g => k3 b o h1 (by rw [ebd]; exact h6) (kp b o h1 h2 h3 h4 h5 h6 g)⟩
          · unfold psC
            rw [setC_p]
            exact eps
          · refine ⟨_, List.mem_map.mpr ⟨d, md, rfl⟩, ?_⟩
            rw [if_pos rfl]
            exact ⟨dp, (List.length_set ..).trans dl⟩
      · rintro σ H2 ⟨S2, U2, C2, o5, rfl, J, eh, ebd, ets, ews, ess, en, eps, -, kp⟩
        have l2 : U2.hs.length = 3 := by rw [eh]; exact U1l
        have hw : U2.hs.getD i 0 = 2 * (top : Int) + 1 := by rw [eh, getD_set (by omega), if_pos rfl]
        walk_at "w3"
        refine ⟨recv J.he.ob, G, S2, U2, _, rfl, J.he, .inl ⟨_, rfl⟩, ?_⟩
        rw [placeOf_int, if_pos ⟨by omega, by omega⟩, Int.toNat_natCast]
        dsimp only
        rw [hw]
        walk_at "w3"
        refine ⟨by omega, fun p np => ?_⟩
        refine ⟨_, upd_same, by omega, by omega, by show 1 * 1 ≤ sizeLine; omega, fun r nr => ?_⟩
        have s4 := same_new (o := .lst [.int ((2 * (top : Int) + 1) / 2)]) np
        have r0 := none_of s4 nr
        have hr : H r = none := by
          cases e : H r with
          | none => rfl
          | some o =>
            rw [kp r o (ne_of_none J.he.ar.me.ls r0).symm (ne_of_none J.he.ar.so r0).symm (ne_of_none J.he.ar.sp r0).symm (ne_of_none J.he.ar.sq r0).symm (ne_of_none J.he.ro.ho.ls r0).symm (by rw [← ebd]; exact (ne_of_none J.he.ro.bo.ds r0).symm) e] at r0
            cases r0
        refine q S2 U2 C2 _ _ [(top : Int)] _ r (J.same (s4.trans (same_new nr))) l2 ebd ets ews ess en eps hr ?_ (J.he.offl r0) fun b o h1 h2 h3 h4 h5 h6 g => (s4.trans (same_new nr)) _ _ (kp b o h1 h2 h3 h4 h5 h6 g)
        rw [upd_same, show (2 * (top : Int) + 1) / 2 = (top : Int) from by omega]
        rfl
    · have J := I.same s1
      walk_at "w3"
      refine ⟨recv J.he.ob, G, S, U, _, rfl, J.he, .inl ⟨_, rfl⟩, ?_⟩
      rw [placeOf_int, if_pos ⟨by omega, by omega⟩, Int.toNat_natCast]
      dsimp only
      refine ⟨by omega, by omega, ?_⟩
      rw [show ((s : Int) * 0).toNat = 0 from by omega]
      refine forW_range (fun t σ H2 => H2 = H1 ∧ ∃ v o5, σ = [some (.ref G.g), some (.int c), some (.int (i : Int)), some (.bl false), some v, o5]) ⟨rfl, _, _, rfl⟩ (fun t σ H2 ht => absurd ht (Nat.not_lt_zero t)) ?_
      rintro σ H2 ⟨rfl, v, o5, rfl⟩
      walk_at "w3"
      refine ⟨recv J.he.ob, G, S, U, _, rfl, J.he, .inl ⟨_, rfl⟩, ?_⟩
      rw [placeOf_int, if_pos ⟨by omega, by omega⟩, Int.toNat_natCast]
      dsimp only
      walk_at "w3"
      refine ⟨by omega, fun p np => ?_⟩
      refine ⟨_, upd_same, by omega, by omega, by show 0 * 1 ≤ sizeLine; omega, fun r nr => ?_⟩
      have s4 := (same_new (o := .lst [.int (U.hs.getD i 0 / 2)]) np)
      have r0 := none_of s4 nr
      refine q S U C _ _ [] _ r { J.same (s4.trans (same_new nr)) with ln := by have := I.ln; omega } h3 rfl rfl rfl rfl rfl (List.append_nil _).symm (none_of s1 r0) upd_same (J.he.offl r0) fun b o h1 h2 h3 h4 h5 h6 g => (s4.trans (same_new nr)) _ _ (s1 _ _ g)
end

local macro_rules | `(tactic| walk_at "w3") => `(tactic| try simp only [↓x_var0, ↓x_varS, ↓x_c, ↓x_op, ↓x_un, ↓x_cb, ↓x_nil, ↓x_cons, ↓x_test, ↓x_b, ↓x_ex, ↓x_and, ↓x_or, ↓x_not, ↓x_andV, ↓x_orV, ↓x_notV, ↓x_tif, ↓x_chain, ↓x_menu, ↓x_menuI, ↓x_lst, ↓x_tup, ↓x_dnew, ↓x_callW, ↓x_callN, ↓x_seq, ↓x_next, ↓x_ret, ↓x_retN, ↓x_drop, ↓x_ifS, ↓x_asg, ↓x_name, ↓x_raise, ↓x_fld, ↓x_setF, ↓x_meth, ↓x_make, ↓x_sub, ↓r_min, ↓r_max, ↓x_yes, ↓x_for, ↓x_lock, ↓x_keys, ↓x_cut, ↓x_lc, ↓x_rng1, ↓x_rng2, ↓x_lst1, ↓x_itup, ↓x_rng3, ↓x_three, ↓x_lstg, ↓x_tupg, ↓x_adrS, ↓x_one, ↓x_two, ↓x_adr, ↓x_sl, ↓x_np, ↓x_pt, ↓x_int, ↓x_bm, ↓x_bm0, ↓x_consg, ↓x_nilg, ↓x_dget2, ↓x_dget1, ↓x_dget, ↓x_din, ↓x_dni, ↓x_dput, ↓x_dpop2, ↓r_isB, ↓r_notB, ↓x_enum, ↓x_zip, ↓x_str, ↓x_strE, ↓r_inS, ↓r_ninS, wipe, List.map_cons, List.map_nil, ↓x_isT, ↓r_isiII, ↓r_isiBB, ↓r_isiIB, ↓r_isiSS, ↓r_neNS, ↓r_neSN, ↓r_neNN, ↓r_eqNS, ↓r_eqSN, ↓r_eqNN, ↓r_eqIS, ↓r_neIS, ↓r_neSI, ↓r_neBS, ↓r_eqBB, ↓r_neBB, ↓x_start, ↓x_K, ↓x_start0, ↓r_i0, ↓r_i, ↓r_u, ↓r_addI, ↓r_addS, ↓r_mulI, ↓r_mulS, ↓r_eqI, ↓r_neI, ↓r_eqS, ↓r_neS, ↓r_absI, ↓r_intI, ↓r_intB, List.length_cons, List.length_nil, List.replicate, List.set_cons_zero, List.set_cons_succ, decide_eq_true_eq, Bool.not_eq_true', decide_eq_false_iff_not, if_true, if_false, Bool.false_eq_true, Bool.true_eq_false, ite_true, ite_false, Bool.not_true, Bool.not_false, c_div, n_ten, c_pow, not_true_eq_false, not_false_eq_true, decide_true, decide_false, true_and, and_true, and_self, true_or, or_true, Int.reduceLT, Int.reduceLE, Int.reduceMul, Int.reduceAdd, Int.reduceSub, Int.reducePow, Int.reduceNeg, Int.reduceDiv, Int.reduceMod, Nat.reducePow, Int.reduceToNat, Int.reduceEq, Int.reduceNe, Nat.reduceLT, Nat.reduceLeDiff, Nat.reduceAdd, ↓x_whole, ↓x_kind, Int.natCast_one, Int.natCast_one])
/-- a heap in which faults may have been planted -/
structure J20 (K : PySem.W.Frag) (G : HpA) (H : Hp) (S : ArS) (U : RoS) (C : List CeL) (os ys : List Nat) (st bk ag : Bool) (m : Nat) : Prop where
  he : HeapO K H G S U
  P : Pla S U C os ys st bk ag
  c8 : ∀ c ∈ C, c.ws.length ≤ 8
  h3 : U.hs.length = 3
  t1 : ∃ n, U.ts = [.int n]
  w1 : ∃ n b, U.ws = [some (n, b)]
  bl : U.bs.length ≤ m
theorem J20.same {K G H H' S U C os ys st bk ag m} (J : J20 K G H S U C os ys st bk ag m) (s : Same H H') : J20 K G H' S U C os ys st bk ag m := { J with he := J.he.same s }
/-- all but the heap's own lists and its book stays -/
def Kq (G : HpA) (bd : Addr) (H H' : Hp) : Prop := ∀ b o, OffL G b → b ≠ bd → H b = some o → H' b = some o
theorem Kq.of {G bd H H'} (s : Same H H') : Kq G bd H H' := fun b o _ _ g => s _ _ g
theorem Kq.trans {G bd H H' H''} (a : Kq G bd H H') (b : Kq G bd H' H'') : Kq G bd H H'' := fun c o h1 h2 g => b c o h1 h2 (a c o h1 h2 g)
theorem J20.hd {K G H S U C os ys st bk ag m} (J : J20 K G H S U C os ys st bk ag m) {c : CeL} (mc : c ∈ C) : c.p + c.ws.length < S.ws.length ∧ c.p + c.ws.length ≤ 9999 ∧ ∃ k, headW S.ws (.int (c.p : Int)) = .ok c.p k ∧ k / 4 = c.ws.length := by
  have e := J.P.g.end_ mc
  have hn := J.he.ar.gn
  have hk := J.he.ar.gk
  have hl := J.P.g.ln
  have w := J.P.g.w c mc
  obtain ⟨k, e1, e2⟩ := wAt_head (ws := S.ws) (p := c.p) (by omega)
  exact ⟨e, by omega, k, ans_head' (by omega) e1, by omega⟩
def plL (st bk ag wk : Bool) : List V := (if st then [V.str "stray"] else []) ++ ((if bk then [V.str "book"] else []) ++ ((if ag then [V.str "age"] else []) ++ if wk then [V.str "walk"] else []))
def sp_nowhere (K : PySem.W.Frag) : Sp := fun vs H Q _ => ∃ G S U C os ys st bk ag m l, ∃ d : Int, vs = [.ref G.g, .ref l, .int d] ∧ J20 K G H S U C os ys st bk ag m ∧ C.length ≤ 100 ∧ H l = some (.lst ((psC C).map V.int)) ∧
  ∀ (x : Nat) H', Same H H' → NoCe C x → x ≤ 9999 → Q (.int (x : Int)) H'
def sp_stray (K : PySem.W.Frag) : Sp := fun vs H Q _ => ∃ G S U C os ys bk ag m, ∃ c ∈ C, ∃ x, ∃ way : Int, vs = [.ref G.g, .int way, .int (c.p : Int), .int (x : Nat)] ∧ J20 K G H S U C os ys false bk ag m ∧ NoCe C x ∧ x ≤ 9999 ∧ 1 ≤ way ∧ way ≤ 4 ∧ (way = 2 → 0 < c.ws.length) ∧
  (way ≠ 2 → ∀ U' H', J20 K G H' S U' C os ys true bk ag m → U'.bd = U.bd → U'.bs = U.bs → Kq G U.bd H H' → Q .non H') ∧
  (way = 2 → ∀ H', HeapO K H' G { S with ws := S.ws.set (c.p + 1) (2 * (x : Int) + 1) } U → Kq G U.bd H H' → Q .non H')
def sp_planted (K : PySem.W.Frag) : Sp := fun vs H Q _ => ∃ G S U C os ys st m l, ∃ c ∈ C, ∃ way d : Int, vs = [.ref G.g, .ref l, .int way, .int (c.p : Int), .int d] ∧ J20 K G H S U C os ys st false false m ∧ m < 1000 ∧ C.length ≤ 100 ∧ H l = some (.lst ((psC C).map V.int)) ∧ OffL G l ∧ 0 ≤ way ∧ way < 8 ∧ (way < 5 → st = false) ∧
  ∀ S' U' H' p sn bk ag wk, J20 K G H' S' U' C os ys (st || sn) bk ag (m + 1) → U'.bd = U.bd → S'.n = S.n → S'.ot = S.ot → S'.t S'.fl = S.t S.fl → (way < 5 → bk = false ∧ ag = false ∧ wk = false) → (5 ≤ way → sn = false) → H p = none → H' p = some (.lst (plL sn bk ag wk)) → OffL G p → p ≠ U.bd → Kq G U.bd H H' → Q (.ref p) H'
section
variable {P : Program} {w : World} {K : PySem.W.Frag} {mg : Str → Option Value} {base : Heap}
theorem f__law_nowhere (T : Tx K mg) : Fn P w K mg base 6 "_law_nowhere" ["_law_heap", "_law_cells", "_law_draw_here"] (sp_nowhere K) := by
  have c_slots_of := f_slots_of (P := P) (w := w) (base := base) T
  refine T.mkFn 79 43 (d := d__law_nowhere) (N := ["_law_heap", "_law_cells", "_law_draw_here", "_law_areas", "_law_some", "_law_at"]) (k := 5) rfl rfl rfl rfl rfl sc__law_nowhere (fun _ _ _ _ _ _ us hl => match us, hl with | [_, _, _], _ => rfl) (fun vs H Q E h => ?len) (fun cdv A outer s H vs Q E hr h => ⟨_,
      (pss_cons (ps_set (i := 3) sc__law_nowhere.nd rfl (Or.inl rfl) (pe_fldC (T.cls 154) (T.noat 165) (pv 0)))
        (pss_cons (ps_set (i := 4) sc__law_nowhere.nd rfl (Or.inl rfl) (pe_lst (pa_cons (pe_op op_sub (pe_fldC (T.cls 81) (T.noat 88) (pe_fldC (T.cls 102) (T.noat 108) (pv 3))) pe_int) (pa_cons (pe_fldC (T.cls 90) (T.noat 101) (pe_fldC (T.cls 102) (T.noat 110) (pv 3))) pa_nil))))
        (pss_cut (ps_if (pt_cmpR op_lt (pe_fldC (T.cls 90) (T.noat 101) (pe_fldC (T.cls 102) (T.noat 109) (pv 3))) (pe_fldC (T.cls 90) (T.noat 100) (pe_fldC (T.cls 102) (T.noat 109) (pv 3))) (nomark _)) (pss_one (ps_expr (pe_bm PySem.F.plainAttrs_list PySem.F.slot_list_append PySem.F.type_list_append mt_append (pv 4) (pa_cons (pe_fldC (T.cls 90) (T.noat 101) (pe_fldC (T.cls 102) (T.noat 109) (pv 3))) pa_nil)))) pss_nil)
        (pss_cons (ps_for (passes_of rfl) rfl (pi_listK (K := K) rfl (pv 1)) (pg_name (i := 5) sc__law_nowhere.nd rfl (Or.inl rfl)) (pss_one (ps_if (pt_cmpR op_gt (pe_fn (takes_of rfl rfl rfl rfl) c_slots_of (hr.mono (by decide)) (by rfl) (pa_cons (pe_fldC (T.cls 102) (T.noat 108) (pv 3)) (pa_cons (pv 5) pa_nil))) pe_int (nomark _)) (pss_one (ps_expr (pe_bm PySem.F.plainAttrs_list PySem.F.slot_list_append PySem.F.type_list_append mt_append (pv 4) (pa_cons (pe_op op_gAdd (pv 5) (pe_fn (takes_of rfl rfl rfl rfl) c_slots_of (hr.mono (by decide)) (by rfl) (pa_cons (pe_fldC (T.cls 102) (T.noat 108) (pv 3)) (pa_cons (pv 5) pa_nil)))) pa_nil)))) pss_nil)))
        (pss_one (ps_ret (pe_ix (ix_seqK (K := K) rfl) (pv 4) (pe_op op_mod (pv 2) (pe_callB (call_lenK (K := K) rfl) (by rfl) (T.free 59) PySem.boot_len (pa_cons (pv 4) pa_nil))) (fun _ _ => rfl)))))))), ?rd⟩)
  case len => first | exact len__law_nowhere h | (repeat (first | (obtain ⟨rfl, _⟩ := h; rfl; done) | obtain ⟨_, h⟩ := h))
  case rd =>
    obtain ⟨G, S, U, C, os, ys, st, bk, ag, m, l, d, rfl, J, cl, hl, q⟩ := h
    have sz : 1000 ≤ sizeLine := by rw [sizeLine_eq]; omega
    have g := J.P.g
    have gn := J.he.ar.gn
    have gk := J.he.ar.gk
    have ln := g.ln
    have lo := g.lo
    have lt := g.lt
    have eb := g.b
    walk_at "w3"
    refine ⟨_, fldIs J.he.ob, _, fldIs J.he.ar.ob, _, fldIs J.he.ar.me.ob, ?_⟩
    walk_at "w3"
    refine ⟨_, fldIs J.he.ar.ob, _, fldIs (J.he.ar.half S.fl), ?_⟩
    walk_at "w3"
    have no0 : NoCe C (S.ws.length - 1) := fun c mc e => by
      have := g.ar c mc
      omega
    have no1 : NoCe C (S.t S.fl) := fun c mc e => by
      have := g.ar c mc
      omega
    refine ⟨by omega, fun p np => ?_⟩
    have s1 := same_new (o := .lst [.int ((S.ws.length : Int) - 1), .int (S.t S.fl : Int)]) np
    have hp1 : upd H p (.lst [.int ((S.ws.length : Int) - 1), .int (S.t S.fl : Int)]) p = some (.lst ([(S.ws.length : Int) - 1, (S.t S.fl : Int)].map V.int)) := upd_same
    generalize upd H p (.lst [.int ((S.ws.length : Int) - 1), .int (S.t S.fl : Int)]) = H1 at s1 hp1 ⊢
    have nice0 : ∀ n ∈ [(S.ws.length : Int) - 1, (S.t S.fl : Int)], ∃ x : Nat, n = (x : Int) ∧ NoCe C x ∧ x ≤ 9999 := fun n mn => by
      rcases List.mem_cons.mp mn with rfl | mn
      · exact ⟨S.ws.length - 1, by omega, no0, by omega⟩
      · rw [List.mem_singleton.mp mn]
        exact ⟨_, rfl, no1, by omega⟩
    have J1 := J.same s1
    refine ⟨fun σ' H' => σ' = [some (.ref G.g), some (.ref l), some (.int d), some (.ref G.A.a), some (.ref p), none] ∧ ∃ ns : List Int, H' p = some (.lst (ns.map V.int)) ∧ (∀ n ∈ ns, ∃ x : Nat, n = (x : Int) ∧ NoCe C x ∧ x ≤ 9999) ∧ 2 ≤ ns.length ∧ ns.length ≤ 3 ∧ Same H H', ?_, ?_⟩
    · refine ⟨_, fldIs J1.he.ar.ob, _, fldIs J1.he.ar.so, _, fldIs J1.he.ar.ob, _, fldIs J1.he.ar.so, ?_⟩
      walk_at "w3"
      split
      · refine ⟨.inl ⟨rfl, _, .of hp1⟩, _, fldIs J1.he.ar.ob, _, fldIs J1.he.ar.so, p, _, _, rfl, rfl, hp1, by show 2 < sizeLine; omega, [(S.ws.length : Int) - 1, (S.t S.fl : Int), (S.ot : Int)], upd_same, fun n mn => ?_, by show 2 ≤ 3; omega, by show 3 ≤ 3; omega, fun b o e => (upd_ne (ne_of_none e np)).trans (s1 _ _ e)⟩
        rcases List.mem_cons.mp mn with rfl | mn
        · exact nice0 _ List.mem_cons_self
        rcases List.mem_cons.mp mn with rfl | mn
        · exact nice0 _ (List.mem_cons_of_mem _ List.mem_cons_self)
        · rw [List.mem_singleton.mp mn]
          refine ⟨_, rfl, fun c mc e => ?_, by omega⟩
          have := g.ar c mc
          omega
      · exact ⟨_, hp1, nice0, by show 2 ≤ 2; omega, by show 2 ≤ 3; omega, s1⟩
    rintro σ' H' ⟨rfl, ns, hp, nice, n2, n3, s'⟩
    walk_at "w3"
    refine ⟨⟨_, .of (s' _ _ hl)⟩, forW_list (xs := (psC C).map V.int) (fun i σ H' => ∃ o5, σ = [some (.ref G.g), some (.ref l), some (.int d), some (.ref G.A.a), some (.ref p), o5] ∧ ∃ ns : List Int, H' p = some (.lst (ns.map V.int)) ∧ (∀ n ∈ ns, ∃ x : Nat, n = (x : Int) ∧ NoCe C x ∧ x ≤ 9999) ∧ 2 ≤ ns.length ∧ ns.length ≤ 3 + i ∧ Same H H') ⟨_, rfl, ns, hp, nice, n2, n3, s'⟩ ?_ ?_ ?_⟩
    · rintro i σ H' _ ⟨o5, rfl, ns, hp, nice, n2, n3, s'⟩
      exact .of (s' _ _ hl)
    · rintro i x σ H' hx ⟨o5, rfl, ns, hp, nice, n2, n3, s'⟩
      obtain ⟨c, ec, rfl⟩ : ∃ c, C[i]? = some c ∧ x = .int (c.p : Int) := by
        unfold psC at hx
        rw [List.map_map, List.getElem?_map] at hx
        cases e : C[i]? with
        | none => rw [e] at hx; cases hx
        | some c => rw [e] at hx; cases hx; exact ⟨c, rfl, rfl⟩
      have mc := List.mem_of_getElem? ec
      have il := (List.getElem?_eq_some_iff.mp ec).1
      obtain ⟨e1, e9, k, ek, ek4⟩ := J.hd mc
      have J' := J.same s'
      walk_at "w3"
      refine ⟨_, fldIs J'.he.ar.ob, G.A.m, G.A.mx, G.A.l, S.ws, _, rfl, J'.he.ar.me, J'.he.ar.vw, .inl ⟨_, rfl⟩, ?_⟩
      rw [ek]
      dsimp only
      walk_at "w3"
      split
      · rename_i pos
        refine ⟨.inl ⟨rfl, _, .of hp⟩, _, fldIs J'.he.ar.ob, G.A.m, G.A.mx, G.A.l, S.ws, _, rfl, J'.he.ar.me, J'.he.ar.vw, .inl ⟨_, rfl⟩, ?_⟩
        rw [ek]
        dsimp only
        walk_at "w3"
        refine ⟨p, _, _, rfl, rfl, hp, by rw [List.length_map]; omega, _, rfl, ns ++ [((c.p + c.ws.length : Nat) : Int)], by rw [upd_same, List.map_append, ek4]; rfl, fun n mn => ?_, by rw [List.length_append]; omega, by rw [List.length_append]; show ns.length + 1 ≤ _; omega, fun b o e => (upd_ne (ne_of_none e np)).trans (s' _ _ e)⟩
        rcases List.mem_append.mp mn with mn | mn
        · exact nice n mn
        · rw [List.mem_singleton.mp mn]
          refine ⟨_, rfl, fun b mb e => ?_, e9⟩
          by_cases q : b = c
          · subst q
            omega
          · have := g.apart mb mc q
            omega
      · exact ⟨_, rfl, ns, hp, nice, n2, by omega, s'⟩
    · rintro σ H' ⟨o5, rfl, ns, hp, nice, n2, n3, s'⟩
      walk_at "w3"
      refine r_lenL hp ?_
      walk_at "w3"
      rw [List.length_map]
      have m0 := Int.emod_nonneg d (show (ns.length : Int) ≠ 0 by omega)
      have m1 := Int.emod_lt_of_pos d (show (0 : Int) < ns.length by omega)
      obtain ⟨i, ei⟩ := Int.eq_ofNat_of_zero_le m0
      refine ⟨by omega, ?_⟩
      rw [ei]
      have hi : i < ns.length := by omega
      obtain ⟨x, ex, n0, n1⟩ := nice (ns.getD i 0) (List.mem_of_getElem? (getD_at (d := 0) hi))
      refine r_ixL hp (by rw [List.getElem?_map, getD_at (d := 0) hi]; rfl) ?_
      rw [ex]
      exact q x H' s' n0 n1
theorem f__law_stray (T : Tx K mg) : Fn P w K mg base 5 "_law_stray" ["_law_heap", "_law_way", "_law_at", "_law_nowhere_here"] (sp_stray K) := by
  have c_Hands_put := f_Hands_put (P := P) (w := w) (base := base) T
  have c_Memory_write := f_Memory_write (P := P) (w := w) (base := base) T
  have c_Weak_move := f_Weak_move (P := P) (w := w) (base := base) T
  have c_Lasts_move := f_Lasts_move (P := P) (w := w) (base := base) T
  refine T.mkFn 80 44 (d := d__law_stray) (N := ["_law_heap", "_law_way", "_law_at", "_law_nowhere_here"]) (k := 4) rfl rfl rfl rfl rfl sc__law_stray (fun _ _ _ _ _ _ us hl => match us, hl with | [_, _, _, _], _ => rfl) (fun vs H Q E h => ?len) (fun cdv A outer s H vs Q E hr h => ⟨_,
      (pss_one (ps_if (pt_cmpR (op_eqK (K := K) rfl hr.units) (pv 1) pe_int (nomark _)) (pss_one (ps_expr (pe_mt (K := K) rfl (takes_of rfl rfl rfl rfl) (pe_fldC (T.cls 147) (T.noat 150) (pe_fldC (T.cls 154) (T.noat 164) (pv 0))) c_Hands_put (hr.mono (by decide)) (pa_cons pe_int (pa_cons (pe_op op_gAdd (pe_op op_gMul pe_int (pv 3)) pe_int) pa_nil))))) (pss_one (ps_if (pt_cmpR (op_eqK (K := K) rfl hr.units) (pv 1) pe_int (nomark _)) (pss_one (ps_expr (pe_mt (K := K) rfl (takes_of rfl rfl rfl rfl) (pe_fldC (T.cls 102) (T.noat 108) (pe_fldC (T.cls 154) (T.noat 165) (pv 0))) c_Memory_write (hr.mono (by decide)) (pa_cons (pe_op op_gAdd (pv 2) pe_int) (pa_cons (pe_op op_gAdd (pe_op op_gMul pe_int (pv 3)) pe_int) pa_nil))))) (pss_one (ps_if (pt_cmpR (op_eqK (K := K) rfl hr.units) (pv 1) pe_int (nomark _)) (pss_one (ps_expr (pe_mt (K := K) rfl (takes_of rfl rfl rfl rfl) (pe_fldC (T.cls 147) (T.noat 152) (pe_fldC (T.cls 154) (T.noat 164) (pv 0))) c_Weak_move (hr.mono (by decide)) (pa_cons pe_int (pa_cons (pv 3) pa_nil))))) (pss_one (ps_expr (pe_mt (K := K) rfl (takes_of rfl rfl rfl rfl) (pe_fldC (T.cls 147) (T.noat 153) (pe_fldC (T.cls 154) (T.noat 164) (pv 0))) c_Lasts_move (hr.mono (by decide)) (pa_cons pe_int (pa_cons (pv 3) pa_nil))))))))))), ?rd⟩)
  case len => first | exact len__law_stray h | (repeat (first | (obtain ⟨rfl, _⟩ := h; rfl; done) | obtain ⟨_, h⟩ := h))
  case rd =>
    obtain ⟨G, S, U, C, os, ys, bk, ag, m, c, mc, x, way, rfl, J, nc, hx, w1, w4, w2, q1, q2⟩ := h
    have sz : 1000 ≤ sizeLine := by rw [sizeLine_eq]; omega
    walk_at "w3"
    have wx : (wordOf (2 * (x : Int) + 1)).isSome = true := by rw [word_place (by omega) (by omega)]; rfl
    have px : placeW (.int (x : Int)) = some (x : Int) := by rw [placeW_int, if_pos ⟨by omega, by omega⟩]
    obtain ⟨n, en⟩ := J.t1
    obtain ⟨n1, b1, ew⟩ := J.w1
    split
    · rename_i e
      refine ⟨_, fldIs J.he.ob, _, fldIs J.he.ro.ob, recv J.he.ro.ho.ob, _, _, _, _, _, _, rfl, J.he.ro.ho, .inl ⟨_, rfl⟩, .inl ⟨_, rfl⟩, ?_⟩
      rw [placeOf_int, if_pos ⟨by omega, by have := J.h3; omega⟩, wordV_int, if_pos wx]
      have h0 : (0 : Int).toNat = 0 := rfl
      rw [h0]
      exact q1 (by omega) _ _ { he := J.he.hput wx, P := J.P.hand nc hx (by have := J.h3; omega), c8 := J.c8, h3 := (List.length_set ..).trans J.h3, t1 := J.t1, w1 := J.w1, bl := J.bl } rfl rfl fun b o h1 h2 g => (upd_ne h1.2.1).trans g
    split
    · rename_i e
      refine ⟨_, fldIs J.he.ob, _, fldIs J.he.ar.ob, recv J.he.ar.me.ob, _, _, _, _, _, _, rfl, J.he.ar.me, .inl ⟨_, rfl⟩, .inl ⟨_, rfl⟩, ?_⟩
      obtain ⟨e1, e9, -⟩ := J.hd mc
      have h0 := w2 e
      rw [placeOf_int, if_pos ⟨by omega, by omega⟩, wordV_int, if_pos wx]
      dsimp only
      rw [show ((c.p : Int) + 1).toNat = c.p + 1 from by omega]
      exact q2 e _ (J.he.wput (J.he.ar.vw.set wx) (List.length_set ..)) fun b o h1 h2 g => (upd_ne h1.1).trans g
    split
    · rename_i e
      refine ⟨_, fldIs J.he.ob, _, fldIs J.he.ro.ob, recv J.he.ro.wo.ob, _, _, _, _, _, _, rfl, J.he.ro.wo, .inl ⟨_, rfl⟩, .inl ⟨_, rfl⟩, ?_⟩
      rw [placeOf_int, if_pos ⟨by omega, by rw [en]; show (0 : Int) < 1; omega⟩, px]
      dsimp only
      rw [en, if_neg (by intro z; cases z)]
      exact q1 (by omega) { U with ts := [.int (x : Int)] } _ { he := J.he.wkput, P := J.P.name nc, c8 := J.c8, h3 := J.h3, t1 := ⟨_, rfl⟩, w1 := J.w1, bl := J.bl } rfl rfl fun b o h1 h2 g => (upd_ne h1.2.2.1).trans g
    · refine ⟨_, fldIs J.he.ob, _, fldIs J.he.ro.ob, recv J.he.ro.lo.ob, _, _, _, _, _, _, _, _, _, rfl, J.he.ro.lo, .inl ⟨_, rfl⟩, .inl ⟨_, rfl⟩, ?_⟩
      have et : tickOf U.ws (.int 0) = some (0, n1, b1) := by
        unfold tickOf
        rw [ew]
        rfl
      rw [et, px]
      intro H' rs' L k
      have eL : U.ws.set 0 (some ((x : Int), b1)) = [some ((x : Int), b1)] := by rw [ew]; rfl
      rw [eL] at L
      exact q1 (by omega) _ H' { he := J.he.lsput L (fun c o h1 _ g => k c o h1 g), P := J.P.last nc, c8 := J.c8, h3 := J.h3, t1 := J.t1, w1 := ⟨_, _, rfl⟩, bl := J.bl } rfl rfl fun b o h1 h2 g => k b o h1.2.2.2.1 g
end

local macro_rules | `(tactic| walk_at "w3") => `(tactic| try simp only [↓x_var0, ↓x_varS, ↓x_c, ↓x_op, ↓x_un, ↓x_cb, ↓x_nil, ↓x_cons, ↓x_test, ↓x_b, ↓x_ex, ↓x_and, ↓x_or, ↓x_not, ↓x_andV, ↓x_orV, ↓x_notV, ↓x_tif, ↓x_chain, ↓x_menu, ↓x_menuI, ↓x_lst, ↓x_tup, ↓x_dnew, ↓x_callW, ↓x_callN, ↓x_seq, ↓x_next, ↓x_ret, ↓x_retN, ↓x_drop, ↓x_ifS, ↓x_asg, ↓x_name, ↓x_raise, ↓x_fld, ↓x_setF, ↓x_meth, ↓x_make, ↓x_sub, ↓r_min, ↓r_max, ↓x_yes, ↓x_for, ↓x_lock, ↓x_keys, ↓x_cut, ↓x_lc, ↓x_rng1, ↓x_rng2, ↓x_lst1, ↓x_itup, ↓x_rng3, ↓x_three, ↓x_lstg, ↓x_tupg, ↓x_adrS, ↓x_one, ↓x_two, ↓x_adr, ↓x_sl, ↓x_np, ↓x_pt, ↓x_int, ↓x_bm, ↓x_bm0, ↓x_consg, ↓x_nilg, ↓x_dget2, ↓x_dget1, ↓x_dget, ↓x_din, ↓x_dni, ↓x_dput, ↓x_dpop2, ↓r_isB, ↓r_notB, ↓x_enum, ↓x_zip, ↓x_str, ↓x_strE, ↓r_inS, ↓r_ninS, wipe, List.map_cons, List.map_nil, ↓x_isT, ↓r_isiII, ↓r_isiBB, ↓r_isiIB, ↓r_isiSS, ↓r_neNS, ↓r_neSN, ↓r_neNN, ↓r_eqNS, ↓r_eqSN, ↓r_eqNN, ↓r_eqIS, ↓r_neIS, ↓r_neSI, ↓r_neBS, ↓r_eqBB, ↓r_neBB, ↓x_start, ↓x_K, ↓x_start0, ↓r_i0, ↓r_i, ↓r_u, ↓r_addI, ↓r_addS, ↓r_mulI, ↓r_mulS, ↓r_eqI, ↓r_neI, ↓r_eqS, ↓r_neS, ↓r_absI, ↓r_intI, ↓r_intB, List.length_cons, List.length_nil, List.replicate, List.set_cons_zero, List.set_cons_succ, decide_eq_true_eq, Bool.not_eq_true', decide_eq_false_iff_not, if_true, if_false, Bool.false_eq_true, Bool.true_eq_false, ite_true, ite_false, Bool.not_true, Bool.not_false, c_div, n_ten, c_pow, not_true_eq_false, not_false_eq_true, decide_true, decide_false, true_and, and_true, and_self, true_or, or_true, Int.reduceLT, Int.reduceLE, Int.reduceMul, Int.reduceAdd, Int.reduceSub, Int.reducePow, Int.reduceNeg, Int.reduceDiv, Int.reduceMod, Nat.reducePow, Int.reduceToNat, Int.reduceEq, Int.reduceNe, Nat.reduceLT, Nat.reduceLeDiff, Nat.reduceAdd, ↓x_whole, ↓x_kind, Int.natCast_one, Int.natCast_one])
section
variable {P : Program} {w : World} {K : PySem.W.Frag} {mg : Str → Option Value} {base : Heap}
theorem f__law_planted (T : Tx K mg) : Fn P w K mg base 7 "_law_planted" ["_law_heap", "_law_cells", "_law_way", "_law_at", "_law_draw_here"] (sp_planted K) := by
  have c_slots_of := f_slots_of (P := P) (w := w) (base := base) T
  have c__law_stray := f__law_stray (P := P) (w := w) (base := base) T
  have c__law_nowhere := f__law_nowhere (P := P) (w := w) (base := base) T
  have c_Book_has := f_Book_has (P := P) (w := w) (base := base) T
  have c_Book_rub := f_Book_rub (P := P) (w := w) (base := base) T
  have c_Book_places := f_Book_places (P := P) (w := w) (base := base) T
  have c_Book_write := f_Book_write (P := P) (w := w) (base := base) T
  have c_aged := f_aged (P := P) (w := w) (base := base) T
  refine T.mkFn 81 45 (d := d__law_planted) (N := ["_law_heap", "_law_cells", "_law_way", "_law_at", "_law_draw_here", "_law_old_words", "_law_slots", "_law_there"]) (k := 6) rfl rfl rfl rfl rfl sc__law_planted (fun _ _ _ _ _ _ us hl => match us, hl with | [_, _, _, _, _], _ => rfl) (fun vs H Q E h => ?len) (fun cdv A outer s H vs Q E hr h => ⟨_,
      (pss_cons (ps_set (i := 5) sc__law_planted.nd rfl (Or.inl rfl) (pe_fldC (T.cls 90) (T.noat 100) (pe_fldC (T.cls 102) (T.noat 109) (pe_fldC (T.cls 154) (T.noat 165) (pv 0)))))
        (pss_cons (ps_set (i := 6) sc__law_planted.nd rfl (Or.inl rfl) (pe_fn (takes_of rfl rfl rfl rfl) c_slots_of (hr.mono (by decide)) (by rfl) (pa_cons (pe_fldC (T.cls 102) (T.noat 108) (pe_fldC (T.cls 154) (T.noat 165) (pv 0))) (pa_cons (pv 3) pa_nil))))
        (pss_cut (ps_if (PW.pt (pw_or (pt_cmpR (op_eqK (K := K) rfl hr.units) (pv 2) pe_int (nomark _)) (pw_or1 (PW.pt (pw_and (pt_cmpR (op_inTG (K := K) rfl (hu65 hr)) (pv 2) (pe_tup (pa_cons pe_int (pa_cons pe_int pa_nil))) (by rfl)) (pw_and1 (pt_cmpR (op_eqK (K := K) rfl hr.units) (pv 6) pe_int (nomark _)))))))) (pss_one (ps_ret (pe_lst pa_nil))) pss_nil)
        (pss_cons (ps_if (pt_cmpR op_lt (pv 2) pe_int (nomark _)) (pss_cons (ps_expr (pe_fn (takes_of rfl rfl rfl rfl) c__law_stray (hr.mono (by decide)) (by rfl) (pa_cons (pv 0) (pa_cons (pv 2) (pa_cons (pv 3) (pa_cons (pe_fn (takes_of rfl rfl rfl rfl) c__law_nowhere (hr.mono (by decide)) (by rfl) (pa_cons (pv 0) (pa_cons (pv 1) (pa_cons (pv 4) pa_nil)))) pa_nil))))))
        (pss_cons (ps_if (PW.pt (pw_and (pt_cmpR (op_eqK (K := K) rfl hr.units) (pv 2) pe_int (nomark _)) (pw_and1 (pt_val (pe_mt (K := K) rfl (takes_of rfl rfl rfl rfl) (pe_fldC (T.cls 147) (T.noat 151) (pe_fldC (T.cls 154) (T.noat 164) (pv 0))) c_Book_has (hr.mono (by decide)) (pa_cons (pe_op op_gAdd (pv 3) pe_int) pa_nil)))))) (pss_one (ps_expr (pe_mt (K := K) rfl (takes_of rfl rfl rfl rfl) (pe_fldC (T.cls 147) (T.noat 151) (pe_fldC (T.cls 154) (T.noat 164) (pv 0))) c_Book_rub (hr.mono (by decide)) (pa_cons (pe_op op_gAdd (pv 3) pe_int) pa_nil)))) pss_nil)
        (pss_one (ps_ret (pe_lst (pa_cons pe_str pa_nil)))))) pss_nil)
        (pss_cons (ps_if (pt_cmpR (op_eqK (K := K) rfl hr.units) (pv 2) pe_int (nomark _)) (pss_cons (ps_set (i := 7) sc__law_planted.nd rfl (Or.inl rfl) (pe_mt0 (K := K) rfl (takes_of rfl rfl rfl rfl) (pe_fldC (T.cls 147) (T.noat 151) (pe_fldC (T.cls 154) (T.noat 164) (pv 0))) c_Book_places (hr.mono (by decide))))
        (pss_cons (ps_if (pt_cmpR (op_inK (K := K) rfl) (pe_op op_gAdd (pv 3) pe_int) (pv 7) (by rfl)) (pss_one (ps_expr (pe_mt (K := K) rfl (takes_of rfl rfl rfl rfl) (pe_fldC (T.cls 147) (T.noat 151) (pe_fldC (T.cls 154) (T.noat 164) (pv 0))) c_Book_rub (hr.mono (by decide)) (pa_cons (pe_op op_gAdd (pv 3) pe_int) pa_nil)))) (pss_cons (ps_expr (pe_mt (K := K) rfl (takes_of rfl rfl rfl rfl) (pe_fldC (T.cls 147) (T.noat 151) (pe_fldC (T.cls 154) (T.noat 164) (pv 0))) c_Book_write (hr.mono (by decide)) (pa_cons (pe_op op_gAdd (pv 3) pe_int) pa_nil)))
        (pss_one (ps_if (PW.pt (pw_and (pt_cmpR (op_neK (K := K) rfl hr.units) (pv 7) (pe_lst pa_nil) (nomark _)) (pw_and1 (pt_cmpR (op_eqK (K := K) rfl hr.units) (pe_op op_mod (pv 4) pe_int) pe_int (nomark _))))) (pss_one (ps_expr (pe_mt (K := K) rfl (takes_of rfl rfl rfl rfl) (pe_fldC (T.cls 147) (T.noat 151) (pe_fldC (T.cls 154) (T.noat 164) (pv 0))) c_Book_rub (hr.mono (by decide)) (pa_cons (pe_ix (ix_seqK (K := K) rfl) (pv 7) (pe_op op_mod (pe_op op_fdiv (pv 4) pe_int) (pe_callB (call_lenK (K := K) rfl) (by rfl) (T.free 59) PySem.boot_len (pa_cons (pv 7) pa_nil))) (fun _ _ => rfl)) pa_nil)))) pss_nil))))
        (pss_one (ps_ret (pe_lst (pa_cons pe_str pa_nil)))))) pss_nil)
        (pss_cons (ps_if (pt_cmpR (op_eqK (K := K) rfl hr.units) (pv 2) pe_int (nomark _)) (pss_cons (ps_expr (pe_fn (takes_of rfl rfl rfl rfl) c_aged (hr.mono (by decide)) (by rfl) (pa_cons (pe_fldC (T.cls 102) (T.noat 108) (pe_fldC (T.cls 154) (T.noat 165) (pv 0))) (pa_cons (pv 3) (pa_cons (pe_ifExp (pt_cmpR op_lt (pv 3) (pv 5) (nomark _)) pe_int pe_int) pa_nil)))))
        (pss_one (ps_ret (pe_lst (pa_cons pe_str pa_nil))))) pss_nil)
        (pss_one (ps_ret (pe_lst (pa_cons pe_str pa_nil)))))))))), ?rd⟩)
  case len => first | exact len__law_planted h | (repeat (first | (obtain ⟨rfl, _⟩ := h; rfl; done) | obtain ⟨_, h⟩ := h))
  case rd =>
    obtain ⟨G, S, U, C, os, ys, st, m, l, c, mc, way, d, rfl, J, hm, cl, hl, ol, w0, w8, ws, q⟩ := h
    have sz : 1000 ≤ sizeLine := by rw [sizeLine_eq]; omega
    obtain ⟨e1, e9, k, ek, ek4⟩ := J.hd mc
    walk_at "w3"
    refine ⟨_, fldIs J.he.ob, _, fldIs J.he.ar.ob, _, fldIs J.he.ar.so, _, fldIs J.he.ob, _, fldIs J.he.ar.ob, G.A.m, G.A.mx, G.A.l, S.ws, _, rfl, J.he.ar.me, J.he.ar.vw, .inl ⟨_, rfl⟩, ?_⟩
    rw [ek]
    dsimp only
    walk_at "w3"
    -- how each end is reached
    have fin : ∀ H1 S' U' sn bk ag wk, J20 K G H1 S' U' C os ys (st || sn) bk ag (m + 1) → U'.bd = U.bd → S'.n = S.n → S'.ot = S.ot → S'.t S'.fl = S.t S.fl → (way < 5 → bk = false ∧ ag = false ∧ wk = false) → (5 ≤ way → sn = false) → Kq G U.bd H H1 → ∀ p, H1 p = none → Q (.ref p) (upd H1 p (.lst (plL sn bk ag wk))) := by
      intro H1 S' U' sn bk ag wk J1 eb en eo et c1 c2 k p np
      have s1 := same_new (o := .lst (plL sn bk ag wk)) np
      have of := J1.he.offl np
      have nb : p ≠ U.bd := by rw [← eb]; exact (ne_of_none J1.he.ro.bo.ds np).symm
      refine q S' U' _ p sn bk ag wk (J1.same s1) eb en eo et c1 c2 ?_ upd_same of nb (k.trans (Kq.of s1))
      cases e : H p with
      | none => rfl
      | some o =>
        rw [k p o of nb e] at np
        cases np
    have none_ : ∀ H1, Same H H1 → ∀ p, H1 p = none → Q (.ref p) (upd H1 p (.lst [])) := fun H1 s1 p np => fin H1 S U false false false false (by rw [Bool.or_false]; exact { J.same s1 with bl := by have := J.bl; omega }) rfl rfl rfl rfl (fun _ => ⟨rfl, rfl, rfl⟩) (fun _ => rfl) (Kq.of s1) p np
    refine ⟨fun σ' H' => σ' = [some (.ref G.g), some (.ref l), some (.int way), some (.int (c.p : Int)), some (.int d), some (.int (S.n : Int)), some (.int ((k / 4 : Nat) : Int)), none] ∧ Same H H' ∧ way ≠ 0 ∧ (way = 2 ∨ way = 5 → 0 < c.ws.length), ?_, ?_⟩
    · split
      · exact ⟨by omega, none_ H (Same.refl _)⟩
      · rename_i w00
        refine ⟨by omega, fun p np => ?_⟩
        have s1 := same_new (o := .tup [.int 2, .int 5]) np
        refine r_inT upd_same rfl rfl ?_
        walk_at "w3"
        rw [show inV (.int way) [.int 2, .int 5] = decide (way = 2 ∨ way = 5) from by
          rw [Bool.eq_iff_iff, decide_eq_true_iff]
          show ((2 : Int) == way || ((5 : Int) == way || false)) = true ↔ _
          rw [Bool.or_false, Bool.or_eq_true, beq_iff_eq, beq_iff_eq]
          omega]
        by_cases c25 : way = 2 ∨ way = 5
        · rw [decide_eq_true c25]
          walk_at "w3"
          split
          · exact ⟨by omega, none_ _ s1⟩
          · exact ⟨s1, w00, fun _ => by omega⟩
        · rw [decide_eq_false c25]
          exact ⟨s1, w00, fun z => absurd z c25⟩
    rintro σ' H1 ⟨rfl, s1, w00, wl⟩
    have J1 := J.same s1
    have bl := J1.bl
    have px : placeW (.int ((c.p : Int) + 1)) = some ((c.p + 1 : Nat) : Int) ∨ c.ws.length = 0 := by
      by_cases z : c.ws.length = 0
      · exact .inr z
      · refine .inl ?_
        rw [placeW_int, if_pos ⟨by omega, by omega⟩]
        rfl
    walk_at "w3"
    split
    · rename_i lt5
      have st0 := ws lt5
      subst st0
      refine ⟨G, S, U, C, os, ys, false, false, false, m, l, d, rfl, J1, cl, s1 _ _ hl, fun x H2 s2 nc hx => ?_⟩
      refine ⟨G, S, U, C, os, ys, false, false, m, c, mc, x, way, rfl, J1.same s2, nc, hx, by omega, by omega, fun z => wl (.inl z), fun n2 U' H3 J3 eb ebs k3 => ?_, fun e2 H3 I3 k3 => ?_⟩
      · dsimp only
        rw [if_neg n2]
        exact ⟨by omega, fin H3 S U' true false false false { J3 with bl := by have := J3.bl; omega } eb rfl rfl rfl (fun _ => ⟨rfl, rfl, rfl⟩) (fun z => by omega) ((Kq.of (s1.trans s2)).trans k3)⟩
      · dsimp only
        rw [if_pos e2]
        have l0 := wl (.inl e2)
        have px := px.resolve_right (by omega)
        refine ⟨_, fldIs I3.ob, _, fldIs I3.ro.ob, recv I3.ro.bo.ob, _, _, _, _, _, rfl, I3.ro.bo, .inl ⟨_, rfl⟩, ?_⟩
        rw [px]
        dsimp only
        have k13 := (Kq.of (s1.trans s2)).trans k3
        by_cases mb : ((c.p + 1 : Nat) : Int) ∈ U.bs
        · rw [decide_eq_true mb]
          walk_at "w3"
          refine ⟨_, fldIs I3.ob, _, fldIs I3.ro.ob, recv I3.ro.bo.ob, _, _, _, _, _, rfl, I3.ro.bo, .inl ⟨_, rfl⟩, ?_⟩
          rw [px]
          dsimp only
          have nd : (delP U.bs ((c.p + 1 : Nat) : Int)).Nodup := I3.ro.bo.nd.filter _
          have dl : (delP U.bs ((c.p + 1 : Nat) : Int)).length ≤ U.bs.length := List.length_filter_le _ _
          have J4 : J20 K G _ _ _ C os ys true false false m := { he := I3.bput nd, P := J.P.slot mc l0 nc hx fun z => mem_delP, c8 := J.c8, h3 := J.h3, t1 := J.t1, w1 := J.w1, bl := by show (delP U.bs _).length ≤ m; omega }
          refine ⟨⟨by omega, fin _ _ _ true false false false { J4 with bl := by have := J4.bl; omega } rfl rfl rfl rfl (fun _ => ⟨rfl, rfl, rfl⟩) (fun z => by omega) (k13.trans fun b o h1 h2 g => (upd_ne h2).trans g)⟩, fun ed => ?_⟩
          exfalso
          rw [← ed] at mb
          exact (mem_delP.mp mb).2 rfl
        · rw [decide_eq_false mb]
          walk_at "w3"
          have J4 : J20 K G H3 _ U C os ys true false false m := { he := I3, P := J.P.slot mc l0 nc hx (bs := U.bs) fun z => ⟨fun h => ⟨h, fun e => mb (e ▸ h)⟩, fun h => h.1⟩, c8 := J.c8, h3 := J.h3, t1 := J.t1, w1 := J.w1, bl := J.bl }
          exact ⟨by omega, fin _ _ _ true false false false { J4 with bl := by have := J4.bl; omega } rfl rfl rfl rfl (fun _ => ⟨rfl, rfl, rfl⟩) (fun z => by omega) k13⟩
    · rename_i ge5
      split
      · rename_i e5
        have l0 := wl (.inr e5)
        have px := px.resolve_right (by omega)
        refine ⟨_, fldIs J1.he.ob, _, fldIs J1.he.ro.ob, recv J1.he.ro.bo.ob, _, _, _, _, rfl, J1.he.ro.bo, by omega, fun ns r H2 pn so nr s2 hr => ?_⟩
        have J2 := J1.same s2
        have s12 := s1.trans s2
        refine r_inL (.of hr) rfl all_flat ?_
        rw [in_ints]
        walk_at "w3"
        by_cases mb : ((c.p : Int) + 1) ∈ ns
        · have mb' : ((c.p + 1 : Nat) : Int) ∈ U.bs := pn.mem_iff.mp mb
          rw [if_pos mb]
          refine ⟨_, fldIs J2.he.ob, _, fldIs J2.he.ro.ob, recv J2.he.ro.bo.ob, _, _, _, _, _, rfl, J2.he.ro.bo, .inl ⟨_, rfl⟩, ?_⟩
          rw [px]
          dsimp only
          have nd : (delP U.bs ((c.p + 1 : Nat) : Int)).Nodup := J2.he.ro.bo.nd.filter _
          have dl : (delP U.bs ((c.p + 1 : Nat) : Int)).length ≤ U.bs.length := List.length_filter_le _ _
          have J4 : J20 K G _ S _ C os ys st true false m := { he := J2.he.bput nd, P := J.P.book (bs := delP U.bs ((c.p + 1 : Nat) : Int)) (x := ((c.p + 1 : Nat) : Int)) ⟨fun h => absurd rfl (mem_delP.mp h).2, fun h => absurd mb' h⟩, c8 := J.c8, h3 := J.h3, t1 := J.t1, w1 := J.w1, bl := by show (delP U.bs _).length ≤ m; omega }
          refine ⟨⟨by omega, fin _ S { U with bs := delP U.bs ((c.p + 1 : Nat) : Int) } false true false false (by rw [Bool.or_false]; exact { J4 with bl := by have := J4.bl; omega }) rfl rfl rfl rfl (fun z => by omega) (fun z => rfl) ((Kq.of s12).trans fun b o h1 h2 g => (upd_ne h2).trans g)⟩, fun ed => ?_⟩
          exfalso
          rw [← ed] at mb'
          exact (mem_delP.mp mb').2 rfl
        · have mb' : ((c.p + 1 : Nat) : Int) ∉ U.bs := fun h => mb (pn.mem_iff.mpr h)
          rw [if_neg mb]
          refine ⟨_, fldIs J2.he.ob, _, fldIs J2.he.ro.ob, recv J2.he.ro.bo.ob, _, _, _, _, _, rfl, J2.he.ro.bo, by omega, .inl ⟨_, rfl⟩, ?_⟩
          rw [px]
          dsimp only
          have eap : addP U.bs ((c.p + 1 : Nat) : Int) = U.bs ++ [((c.p + 1 : Nat) : Int)] := by unfold addP; rw [if_neg mb']
          have nd : (addP U.bs ((c.p + 1 : Nat) : Int)).Nodup := by
            rw [eap]
            exact List.nodup_append.mpr ⟨J2.he.ro.bo.nd, List.nodup_cons.mpr ⟨List.not_mem_nil, List.nodup_nil⟩, fun a ha b hb e => mb' (by rw [List.mem_singleton.mp hb] at e; exact e ▸ ha)⟩
          have al : (addP U.bs ((c.p + 1 : Nat) : Int)).length = U.bs.length + 1 := by rw [eap, List.length_append]; rfl
          have J4 : J20 K G _ S _ C os ys st true false (m + 1) := { he := J2.he.bput nd, P := J.P.book (bs := addP U.bs ((c.p + 1 : Nat) : Int)) (x := ((c.p + 1 : Nat) : Int)) ⟨fun _ => mb', fun _ => mem_addP.mpr (.inr rfl)⟩, c8 := J.c8, h3 := J.h3, t1 := J.t1, w1 := J.w1, bl := by show (addP U.bs _).length ≤ m + 1; omega }
          have k4 : Kq G U.bd H (upd H2 U.bd (.dK (bk (addP U.bs ((c.p + 1 : Nat) : Int))))) := (Kq.of s12).trans fun b o h1 h2 g => (upd_ne h2).trans g
          have hr4 := (upd_ne (o := .dK (bk (addP U.bs ((c.p + 1 : Nat) : Int)))) (ne_of hr J2.he.ro.bo.ds (by intro z; cases z))).trans hr
          generalize upd H2 U.bd (.dK (bk (addP U.bs ((c.p + 1 : Nat) : Int)))) = H4 at J4 k4 hr4 ⊢
          have fin4 : ∀ H5, Same H4 H5 → ∀ p, H5 p = none → Q (.ref p) (upd H5 p (.lst [.str "book"])) := fun H5 s5 => fin H5 S { U with bs := addP U.bs ((c.p + 1 : Nat) : Int) } false true false false (by rw [Bool.or_false]; exact J4.same s5) rfl rfl rfl rfl (fun z => by omega) (fun z => rfl) (k4.trans (Kq.of s5))
          refine ⟨by omega, fun p np => ?_⟩
          have s5 := same_new (o := .lst []) np
          refine r_neNil (s5 _ _ hr4) upd_same ?_
          have J5 := J4.same s5
          have hr5 := s5 _ _ hr4
          generalize upd H4 p (.lst []) = H5 at s5 J5 hr5 ⊢
          by_cases n0 : ns = []
          · rw [decide_eq_true n0]
            walk_at "w3"
            exact ⟨by omega, fin4 H5 s5⟩
          rw [decide_eq_false n0]
          walk_at "w3"
          split
          · have nl : 0 < ns.length := List.length_pos_iff.mpr n0
            refine ⟨_, fldIs J5.he.ob, _, fldIs J5.he.ro.ob, recv J5.he.ro.bo.ob, ?_⟩
            refine r_lenL hr5 ?_
            walk_at "w3"
            rw [List.length_map]
            have m0 := Int.emod_nonneg (d / 2) (show (ns.length : Int) ≠ 0 by omega)
            have m1 := Int.emod_lt_of_pos (d / 2) (show (0 : Int) < ns.length by omega)
            obtain ⟨i, ei⟩ := Int.eq_ofNat_of_zero_le m0
            rw [ei]
            have hi : i < ns.length := by omega
            refine ⟨by omega, r_ixL hr5 (by rw [List.getElem?_map, getD_at (d := 0) hi]; rfl) ?_⟩
            have my : ns.getD i 0 ∈ U.bs := pn.mem_iff.mp (List.mem_of_getElem? (getD_at (d := 0) hi))
            refine ⟨_, _, _, _, _, rfl, J5.he.ro.bo, .inl ⟨_, rfl⟩, ?_⟩
            have py : placeW (.int (ns.getD i 0)) = some (ns.getD i 0) := by
              obtain ⟨p, mp, u, hu, ex, -⟩ := mem_dueP.mp ((J.P.bk.mp rfl _).mp my)
              obtain ⟨b, mb, rfl, -⟩ := (J.P.g.mo p).mp mp
              obtain ⟨f1, f2, -⟩ := J.hd mb
              have := J.P.g.w b mb
              rw [placeW_int, if_pos ⟨by omega, by omega⟩]
            rw [py]
            dsimp only
            have nd5 : (delP (addP U.bs ((c.p + 1 : Nat) : Int)) (ns.getD i 0)).Nodup := J5.he.ro.bo.nd.filter _
            have dl : (delP (addP U.bs ((c.p + 1 : Nat) : Int)) (ns.getD i 0)).length ≤ (addP U.bs ((c.p + 1 : Nat) : Int)).length := List.length_filter_le _ _
            have ne : ((c.p + 1 : Nat) : Int) ≠ ns.getD i 0 := fun e => mb' (e ▸ my)
            have J6 : J20 K G _ S { U with bs := delP (addP U.bs ((c.p + 1 : Nat) : Int)) (ns.getD i 0) } C os ys st true false (m + 1) := { he := J5.he.bput nd5, P := J.P.book (bs := delP (addP U.bs ((c.p + 1 : Nat) : Int)) (ns.getD i 0)) (x := ((c.p + 1 : Nat) : Int)) ⟨fun _ => mb', fun _ => mem_delP.mpr ⟨mem_addP.mpr (.inr rfl), ne⟩⟩, c8 := J.c8, h3 := J.h3, t1 := J.t1, w1 := J.w1, bl := by show (delP _ _).length ≤ m + 1; omega }
            refine ⟨⟨by omega, fin _ S { U with bs := delP (addP U.bs ((c.p + 1 : Nat) : Int)) (ns.getD i 0) } false true false false (by rw [Bool.or_false]; exact J6) rfl rfl rfl rfl (fun z => by omega) (fun z => rfl) ((k4.trans (Kq.of s5)).trans fun b o h1 h2 g => (upd_ne h2).trans g)⟩, fun ed => ⟨by omega, fin4 H5 s5⟩⟩
          · exact ⟨by omega, fin4 H5 s5⟩
      split
      · rename_i e6
        refine ⟨_, fldIs J1.he.ob, _, fldIs J1.he.ar.ob, ?_⟩
        have eif : ∀ Z : Int → Prop, Z (if c.p < S.n then 1 else 2) → (if (c.p : Int) < (S.n : Int) then Z 1 else Z 2) := fun Z z => by
          by_cases h : c.p < S.n
          · rw [if_pos h] at z
            rw [if_pos (by omega)]
            exact z
          · rw [if_neg h] at z
            rw [if_neg (by omega)]
            exact z
        refine eif (fun z => sp_aged K [.ref G.A.m, .int (c.p : Int), .int z] H1 _ _) ?_
        refine ⟨G.A.m, G.A.mx, G.A.l, S.ws, _, _, rfl, J1.he.ar.me, J1.he.ar.vw, .inl ⟨_, rfl⟩, .inl ⟨_, rfl⟩, ?_⟩
        rw [ek]
        dsimp only
        rw [show ageW (.int (if c.p < S.n then 1 else 2)) = some (if c.p < S.n then 1 else 2) from by split <;> rfl]
        dsimp only
        rw [ek4]
        have c8 := J.c8 c mc
        have J6 : J20 K G _ { S with ws := S.ws.set c.p (2 * ((4 * c.ws.length + (if c.p < S.n then 1 else 2) : Nat) : Int)) } U C os ys st false true (m + 1) := { he := J1.he.wput (J1.he.ar.vw.set (by rw [word_num (by split <;> omega)]; rfl)) (List.length_set ..), P := J.P.age mc c8, c8 := J.c8, h3 := J.h3, t1 := J.t1, w1 := J.w1, bl := by omega }
        exact ⟨by omega, fin _ { S with ws := S.ws.set c.p (2 * ((4 * c.ws.length + (if c.p < S.n then 1 else 2) : Nat) : Int)) } U false false true false (by rw [Bool.or_false]; exact J6) rfl rfl rfl rfl (fun z => by omega) (fun z => rfl) ((Kq.of s1).trans fun b o h1 h2 g => (upd_ne h1.1).trans g)⟩
      · exact ⟨by omega, fin H1 S U false false false true (by rw [Bool.or_false]; exact { J1 with bl := by omega }) rfl rfl rfl rfl (fun z => by omega) (fun z => rfl) (Kq.of s1)⟩
end

local macro_rules | `(tactic| walk_at "w3") => `(tactic| try simp only [↓x_var0, ↓x_varS, ↓x_c, ↓x_op, ↓x_un, ↓x_cb, ↓x_nil, ↓x_cons, ↓x_test, ↓x_b, ↓x_ex, ↓x_and, ↓x_or, ↓x_not, ↓x_andV, ↓x_orV, ↓x_notV, ↓x_tif, ↓x_chain, ↓x_menu, ↓x_menuI, ↓x_lst, ↓x_tup, ↓x_dnew, ↓x_callW, ↓x_callN, ↓x_seq, ↓x_next, ↓x_ret, ↓x_retN, ↓x_drop, ↓x_ifS, ↓x_asg, ↓x_name, ↓x_raise, ↓x_fld, ↓x_setF, ↓x_meth, ↓x_make, ↓x_sub, ↓r_min, ↓r_max, ↓x_yes, ↓x_for, ↓x_lock, ↓x_keys, ↓x_cut, ↓x_lc, ↓x_rng1, ↓x_rng2, ↓x_lst1, ↓x_itup, ↓x_rng3, ↓x_three, ↓x_lstg, ↓x_tupg, ↓x_adrS, ↓x_one, ↓x_two, ↓x_adr, ↓x_sl, ↓x_np, ↓x_pt, ↓x_int, ↓x_bm, ↓x_bm0, ↓x_consg, ↓x_nilg, ↓x_dget2, ↓x_dget1, ↓x_dget, ↓x_din, ↓x_dni, ↓x_dput, ↓x_dpop2, ↓r_isB, ↓r_notB, ↓x_enum, ↓x_zip, ↓x_str, ↓x_strE, ↓r_inS, ↓r_ninS, wipe, List.map_cons, List.map_nil, ↓x_isT, ↓r_isiII, ↓r_isiBB, ↓r_isiIB, ↓r_isiSS, ↓r_neNS, ↓r_neSN, ↓r_neNN, ↓r_eqNS, ↓r_eqSN, ↓r_eqNN, ↓r_eqIS, ↓r_neIS, ↓r_neSI, ↓r_neBS, ↓r_eqBB, ↓r_neBB, ↓x_start, ↓x_K, ↓x_start0, ↓r_i0, ↓r_i, ↓r_u, ↓r_addI, ↓r_addS, ↓r_mulI, ↓r_mulS, ↓r_eqI, ↓r_neI, ↓r_eqS, ↓r_neS, ↓r_absI, ↓r_intI, ↓r_intB, List.length_cons, List.length_nil, List.replicate, List.set_cons_zero, List.set_cons_succ, decide_eq_true_eq, Bool.not_eq_true', decide_eq_false_iff_not, if_true, if_false, Bool.false_eq_true, Bool.true_eq_false, ite_true, ite_false, Bool.not_true, Bool.not_false, c_div, n_ten, c_pow, not_true_eq_false, not_false_eq_true, decide_true, decide_false, true_and, and_true, and_self, true_or, or_true, Int.reduceLT, Int.reduceLE, Int.reduceMul, Int.reduceAdd, Int.reduceSub, Int.reducePow, Int.reduceNeg, Int.reduceDiv, Int.reduceMod, Nat.reducePow, Int.reduceToNat, Int.reduceEq, Int.reduceNe, Nat.reduceLT, Nat.reduceLeDiff, Nat.reduceAdd, ↓x_whole, ↓x_kind, Int.natCast_one, Int.natCast_one])
def sp_law (K : PySem.W.Frag) : Sp := fun vs H Q _ => ∃ (a : Addr) (ns : List Int), vs = [.ref a] ∧ SqL K H a (ns.map V.int) ∧ ns.length ≤ 63 ∧ ∀ H', Q (.bl true) H'
theorem J20.faults {K : PySem.W.Frag} {G : HpA} {H : Hp} {S : ArS} {U : RoS} {C : List CeL} {os ys : List Nat} {st bk ag : Bool} {m : Nat} {Q : VK} {E : XK} (J : J20 K G H S U C os ys st bk ag m) (hm : m < 900000) (q : ∀ l H', H l = none → Same H H' → H' l = some (.lst (fltL st bk (decide ((S.n : Int) < (S.ot : Int) + ((S.t S.fl : Int) - S.b S.fl))) ag)) → Q (.ref l) H') : sp_faults K [.ref G.A.a, .ref G.R.r] H Q E := by
  obtain ⟨n, en⟩ := J.t1
  obtain ⟨n1, b1, ew⟩ := J.w1
  have := J.bl
  exact ⟨G.A, S, G.R, U, rfl, J.he.ar, J.he.ro, by rw [en]; show 1 < 1000000; omega, (fun t mt => by rw [en] at mt; rw [List.mem_singleton.mp mt]; rfl), by rw [ew]; show 1 < 1000000; omega, by rw [J.h3]; omega, by omega, .inr ⟨os, ys, st, bk, ag, J.P.g.t1.walk, J.P.g.t2.walk, J.P.st, J.P.bk, J.P.ag, q⟩⟩
theorem I20.j {K : PySem.W.Frag} {G : HpA} {H : Hp} {S : ArS} {U : RoS} {C : List CeL} {os ys : List Nat} {j : Nat} (I : I20 K G H S U C os ys j) (h3 : U.hs.length = 3) (t1 : ∃ n, U.ts = [.int n]) (w1 : ∃ n b, U.ws = [some (n, b)]) : J20 K G H S U C os ys false false false (8 * j) := ⟨I.he, I.pla, I.s8, h3, t1, w1, I.bl⟩
theorem plApp {xs ys : List V} {ds es : List PyData} (h1 : PlAll xs ds) (h2 : PlAll ys es) : PlAll (xs ++ ys) (ds ++ es) := by
  induction h1 with
  | nil => exact h2
  | cons h t ih => exact .cons h ih
theorem opt1 {b : Bool} {s : Str} (k : PyData.strOk s = true) : ∃ ds, PlAll (if b then [V.str s] else []) ds := by
  cases b
  · exact ⟨_, .nil⟩
  · exact ⟨_, .cons (.str _ k) .nil⟩
theorem fltP {b1 b2 b3 b4 : Bool} : ∃ ds, PlAll (fltL b1 b2 b3 b4) ds := by
  obtain ⟨d1, h1⟩ := opt1 (b := b1) (s := "stray") (by decide +kernel)
  obtain ⟨d2, h2⟩ := opt1 (b := b2) (s := "book") (by decide +kernel)
  obtain ⟨d3, h3⟩ := opt1 (b := b3) (s := "room") (by decide +kernel)
  obtain ⟨d4, h4⟩ := opt1 (b := b4) (s := "age") (by decide +kernel)
  exact ⟨_, plApp h1 (plApp h2 (plApp h3 h4))⟩
theorem inV_walk {a b c d : Bool} : inV (.str "walk") (plL a b c d) = d := by
  cases a <;> cases b <;> cases c <;> cases d <;> decide +kernel
def due4 : List V := [.str "stray", .str "book", .str "room", .str "age"]
theorem due_flt {a b c r : Bool} : (due4.filter fun v => inV v (plL a b c false ++ fltL false false r false)) = fltL a b r c := by
  cases a <;> cases b <;> cases c <;> cases r <;> rfl
theorem flt_len {a b c d : Bool} : (fltL a b c d).length ≤ 4 := by
  cases a <;> cases b <;> cases c <;> cases d <;> decide
theorem plL_len {a b c d : Bool} : (plL a b c d).length ≤ 4 := by
  cases a <;> cases b <;> cases c <;> cases d <;> decide
theorem plL_flat {a b c d : Bool} : (plL a b c d).all flatV = true := by
  cases a <;> cases b <;> cases c <;> cases d <;> decide
theorem flt_flat {a b c d : Bool} : (fltL a b c d).all flatV = true := by
  cases a <;> cases b <;> cases c <;> cases d <;> decide
theorem Geo.walk {S : ArS} {C : List CeL} {os ys : List Nat} (g : Geo S C os ys) {d : CeL} (m : d ∈ C) (le : ∀ b ∈ C, (b.p < S.n ↔ d.p < S.n) → b.p ≤ d.p) {x : Int} (hx : (d.ws.length < 8 ∧ x = 68) ∨ (d.ws.length = 8 ∧ x = 0)) :
    walkL (S.ws.set d.p x) S.ot 0 = none ∨ walkL (S.ws.set d.p x) (S.t S.fl) (S.b S.fl) = none := by
  have e := g.end_ m
  have dp : d.p < S.ws.length := by omega
  have core : ∀ {t b : Nat} {ps : List Nat}, Tile S.ws t b ps → d.p ∈ ps → (∀ y ∈ ps, y ≤ d.p) → walkL (S.ws.set d.p x) t b = none := fun {t b ps} c mp lp => by
    obtain ⟨qs, -, et⟩ := tile_last c mp lp
    rw [g.w d m] at et
    refine spoil_walk c mp lp dp (fun y my ne => wAt_set dp fun z => ne z.symm) ?_
    rcases hx with ⟨l8, rfl⟩ | ⟨l8, rfl⟩
    · have w9 : wAt (S.ws.set d.p 68) d.p = 9 := by
        unfold wAt
        rw [getD_set dp, if_pos rfl]
        rfl
      rw [walkL_go (by omega) (by omega), w9, walkL_over (by omega)]
      rfl
    · have w1 : wAt (S.ws.set d.p 0) d.p = 1 := by
        unfold wAt
        rw [getD_set dp, if_pos rfl]
        rfl
      have w0 : wAt (S.ws.set d.p 0) (d.p + 1) = 0 := by
        rw [wAt_set dp (by omega)]
        unfold wAt
        have := g.body d m 0 (by omega)
        rw [Nat.add_zero] at this
        rw [this]
      rw [walkL_go (by omega) (by omega), w1, walkL_no (by omega) w0]
      rfl
  by_cases h : d.p < S.n
  · exact .inl (core g.t1 ((g.mo _).mpr ⟨d, m, rfl, h⟩) fun y my => by
      obtain ⟨b, mb, rfl, hb⟩ := (g.mo y).mp my
      exact le b mb ⟨fun _ => h, fun _ => hb⟩)
  · exact .inr (core g.t2 ((g.my _).mpr ⟨d, m, rfl, by omega⟩) fun y my => by
      obtain ⟨b, mb, rfl, hb⟩ := (g.my y).mp my
      exact le b mb ⟨fun z => absurd z (by omega), fun z => absurd z h⟩)
def gSame (n p : Int) : V → Option V
  | .int x => if (decide (x < n)) = decide (p < n) then some (.int x) else none
  | _ => none
theorem gSame_map {n p : Int} {xs : List Int} : (xs.map V.int).filterMap (gSame n p) = (xs.filter fun x => decide (decide (x < n) = decide (p < n))).map V.int := by
  induction xs with
  | nil => rfl
  | cons x r ih =>
    rw [List.map_cons, List.filterMap_cons, List.filter_cons]
    by_cases h : decide (x < n) = decide (p < n)
    · have e : gSame n p (.int x) = some (.int x) := if_pos h
      rw [if_pos (decide_eq_true h), List.map_cons, ← ih, e]
    · have e : gSame n p (.int x) = none := if_neg h
      rw [if_neg (by rw [decide_eq_true_eq]; exact h), ← ih, e]
/-- a list of the law's own -/
structure Li (G : HpA) (bd : Addr) (H : Hp) (l : Addr) (xs : List V) : Prop where
  ls : H l = some (.lst xs)
  of : OffL G l
  nb : l ≠ bd
theorem Li.kq {G bd H H' l xs} (h : Li G bd H l xs) (k : Kq G bd H H') : Li G bd H' l xs := ⟨k _ _ h.of h.nb h.ls, h.of, h.nb⟩
theorem Li.same {G bd H H' l xs} (h : Li G bd H l xs) (s : Same H H') : Li G bd H' l xs := ⟨s _ _ h.ls, h.of, h.nb⟩
theorem J20.li {K G H S U C os ys st bk ag m} {p : Addr} {xs : List V} (J : J20 K G H S U C os ys st bk ag m) (np : H p = none) : Li G U.bd (upd H p (.lst xs)) p xs := ⟨upd_same, J.he.offl np, (ne_of_none J.he.ro.bo.ds np).symm⟩
theorem cellOf {K : PySem.W.Frag} {G : HpA} {H : Hp} {S : ArS} {U : RoS} {Q : VK} {E : XK} (he : HeapO K H G S U) {i : Nat} {p : Int} (hi : i < U.hs.length) (e : wordOf (U.hs.getD i 0) = some (.place p)) (q : Q (.int p) H) : sp_Heap_cell_of K [.ref G.g, .int (i : Int)] H Q E := by
  refine ⟨G, S, U, _, rfl, he, .inl ⟨_, rfl⟩, ?_⟩
  rw [placeOf_int, if_pos ⟨by omega, by omega⟩, Int.toNat_natCast]
  dsimp only
  rw [e]
  exact q
section
variable {P : Program} {w : World} {K : PySem.W.Frag} {mg : Str → Option Value} {base : Heap}
theorem f_law (T : Tx K mg) : Fn P w K mg base 11 "law" ["_law_script"] (sp_law K) := by
  have c__law_draw := f__law_draw (P := P) (w := w) (base := base) T
  have c_Heap___init__ := f_Heap___init__ (P := P) (w := w) (base := base) T
  have c_Heap_make := f_Heap_make (P := P) (w := w) (base := base) T
  have c_Weak_name := f_Weak_name (P := P) (w := w) (base := base) T
  have c_Heap_cell_of := f_Heap_cell_of (P := P) (w := w) (base := base) T
  have c_Lasts_give := f_Lasts_give (P := P) (w := w) (base := base) T
  have c__law_filled := f__law_filled (P := P) (w := w) (base := base) T
  have c_Space_used := f_Space_used (P := P) (w := w) (base := base) T
  have c_faults := f_faults (P := P) (w := w) (base := base) T
  have c__law_planted := f__law_planted (P := P) (w := w) (base := base) T
  have c_Memory_write := f_Memory_write (P := P) (w := w) (base := base) T
  have c_slots_of := f_slots_of (P := P) (w := w) (base := base) T
  refine T.mkFn 82 46 (d := d_law) (N := ["_law_script", "_law_old_words", "_law_heap", "_law_cells", "_law_cell", "_law_due", "_law_sound", "_law_kept", "_law_way", "_law_at", "_law_draw_here", "_law_planted_here", "_law_more", "_law_last", "_law_one", "_law_word", "_law_found", "_law_again"]) (k := 10) rfl rfl rfl rfl rfl sc_law (fun _ _ _ _ _ _ us hl => match us, hl with | [_], _ => rfl) (fun vs H Q E h => ?len) (fun cdv A outer s H vs Q E hr h => ⟨_,
      (pss_cons (ps_set (i := 1) sc_law.nd rfl (Or.inr rfl) (pe_op op_gAdd pe_int (pe_op op_mod (pe_fn (takes_of rfl rfl rfl rfl) c__law_draw (hr.mono (by decide)) (by rfl) (pa_cons (pv 0) (pa_cons pe_int pa_nil))) pe_int)))
        (pss_cons (ps_set (i := 2) sc_law.nd rfl (Or.inl rfl) (pe_mk (K := K) rfl (takes_of rfl rfl rfl rfl) c_Heap___init__ (hr.mono (by decide)) (by rfl) (pa_cons pe_int (pa_cons (pv 1) (pa_cons (pe_op op_gAdd pe_int (pe_op op_mod (pe_op op_fdiv (pe_fn (takes_of rfl rfl rfl rfl) c__law_draw (hr.mono (by decide)) (by rfl) (pa_cons (pv 0) (pa_cons pe_int pa_nil))) pe_int) pe_int)) pa_nil)))))
        (pss_cons (ps_set (i := 3) sc_law.nd rfl (Or.inl rfl) (pe_lst pa_nil))
        (pss_cons (ps_expr (pe_mt (K := K) rfl (takes_of rfl rfl rfl rfl) (pv 2) c_Heap_make (hr.mono (by decide)) (pa_cons pe_int (pa_cons pe_int pa_nil))))
        (pss_cons (ps_expr (pe_mt (K := K) rfl (takes_of rfl rfl rfl rfl) (pe_fldC (T.cls 147) (T.noat 152) (pe_fldC (T.cls 154) (T.noat 164) (pv 2))) c_Weak_name (hr.mono (by decide)) (pa_cons (pe_mt (K := K) rfl (takes_of rfl rfl rfl rfl) (pv 2) c_Heap_cell_of (hr.mono (by decide)) (pa_cons pe_int pa_nil)) pa_nil)))
        (pss_cons (ps_expr (pe_mt (K := K) rfl (takes_of rfl rfl rfl rfl) (pe_fldC (T.cls 147) (T.noat 153) (pe_fldC (T.cls 154) (T.noat 164) (pv 2))) c_Lasts_give (hr.mono (by decide)) (pa_cons (pe_mt (K := K) rfl (takes_of rfl rfl rfl rfl) (pv 2) c_Heap_cell_of (hr.mono (by decide)) (pa_cons pe_int pa_nil)) (pa_cons pe_int pa_nil))))
        (pss_cons (ps_expr (pe_bm PySem.F.plainAttrs_list PySem.F.slot_list_append PySem.F.type_list_append mt_append (pv 3) (pa_cons (pe_mt (K := K) rfl (takes_of rfl rfl rfl rfl) (pv 2) c_Heap_cell_of (hr.mono (by decide)) (pa_cons pe_int pa_nil)) pa_nil)))
        (pss_cons (ps_for (passes_of rfl) rfl (pi_listK (K := K) rfl (pe_slice (sl_listK (K := K) rfl) (pv 0) (po_some pe_int) (po_some pe_int))) (pg_name (i := 4) sc_law.nd rfl (Or.inl rfl)) (pss_one (ps_set (i := 3) sc_law.nd rfl (Or.inl rfl) (pe_op op_gAdd (pv 3) (pe_fn (takes_of rfl rfl rfl rfl) c__law_filled (hr.mono (by decide)) (by rfl) (pa_cons (pv 2) (pa_cons (pv 4) pa_nil)))))))
        (pss_cons (ps_set (i := 5) sc_law.nd rfl (Or.inr rfl) (pe_lst pa_nil))
        (pss_cut (ps_if (pt_cmpR op_gt (pe_op op_gAdd (pe_mt0 (K := K) rfl (takes_of rfl rfl rfl rfl) (pe_fldC (T.cls 102) (T.noat 109) (pe_fldC (T.cls 154) (T.noat 165) (pv 2))) c_Space_used (hr.mono (by decide))) (pe_mt0 (K := K) rfl (takes_of rfl rfl rfl rfl) (pe_fldC (T.cls 102) (T.noat 110) (pe_fldC (T.cls 154) (T.noat 165) (pv 2))) c_Space_used (hr.mono (by decide)))) (pv 1) (nomark _)) (pss_one (ps_expr (pe_bm PySem.F.plainAttrs_list PySem.F.slot_list_append PySem.F.type_list_append mt_append (pv 5) (pa_cons pe_str pa_nil)))) pss_nil)
        (pss_cons (ps_set (i := 6) sc_law.nd rfl (Or.inl rfl) (pe_fn (takes_of rfl rfl rfl rfl) c_faults (hr.mono (by decide)) (by rfl) (pa_cons (pe_fldC (T.cls 154) (T.noat 165) (pv 2)) (pa_cons (pe_fldC (T.cls 154) (T.noat 164) (pv 2)) pa_nil))))
        (pss_cons (ps_set (i := 7) sc_law.nd rfl (Or.inl rfl) (pe_callTy (call_listK (K := K) rfl) (by rfl) (T.free 68) (by decide +kernel) (pa_cons (pv 5) pa_nil)))
        (pss_cons (ps_if (PW.pt (pw_or (pt_cmpR (op_neK (K := K) rfl hr.units) (pv 6) (pv 5) (nomark _)) (pw_or1 (pt_cmpR (op_neK (K := K) rfl hr.units) (pe_fn (takes_of rfl rfl rfl rfl) c_faults (hr.mono (by decide)) (by rfl) (pa_cons (pe_fldC (T.cls 154) (T.noat 165) (pv 2)) (pa_cons (pe_fldC (T.cls 154) (T.noat 164) (pv 2)) pa_nil))) (pv 5) (nomark _))))) (pss_one (ps_ret pe_bl)) pss_nil)
        (pss_cons (ps_set (i := 8) sc_law.nd rfl (Or.inl rfl) (pe_op op_mod (pe_fn (takes_of rfl rfl rfl rfl) c__law_draw (hr.mono (by decide)) (by rfl) (pa_cons (pv 0) (pa_cons pe_int pa_nil))) pe_int))
        (pss_cons (ps_set (i := 9) sc_law.nd rfl (Or.inr rfl) (pe_ix (ix_seqK (K := K) rfl) (pv 3) (pe_op op_mod (pe_op op_fdiv (pe_fn (takes_of rfl rfl rfl rfl) c__law_draw (hr.mono (by decide)) (by rfl) (pa_cons (pv 0) (pa_cons pe_int pa_nil))) pe_int) (pe_callB (call_lenK (K := K) rfl) (by rfl) (T.free 59) PySem.boot_len (pa_cons (pv 3) pa_nil))) (fun _ _ => rfl)))
        (pss_cons (ps_set (i := 10) sc_law.nd rfl (Or.inl rfl) (pe_op op_fdiv (pe_fn (takes_of rfl rfl rfl rfl) c__law_draw (hr.mono (by decide)) (by rfl) (pa_cons (pv 0) (pa_cons pe_int pa_nil))) pe_int))
        (pss_cons (ps_set (i := 11) sc_law.nd rfl (Or.inr rfl) (pe_fn (takes_of rfl rfl rfl rfl) c__law_planted (hr.mono (by decide)) (by rfl) (pa_cons (pv 2) (pa_cons (pv 3) (pa_cons (pv 8) (pa_cons (pv 9) (pa_cons (pv 10) pa_nil)))))))
        (pss_cons (ps_set (i := 12) sc_law.nd rfl (Or.inl rfl) (pe_op op_mod (pe_fn (takes_of rfl rfl rfl rfl) c__law_draw (hr.mono (by decide)) (by rfl) (pa_cons (pv 0) (pa_cons pe_int pa_nil))) pe_int))
        (pss_cut (ps_if (PW.pt (pw_and (pt_cmpR (op_neK (K := K) rfl hr.units) (pv 12) (pv 8) (nomark _)) (pw_and (pt_cmpR op_gt (pv 12) pe_int (nomark _)) (pw_and1 (pt_cmpR op_lt (pv 8) pe_int (nomark _)))))) (pss_one (ps_set (i := 11) sc_law.nd rfl (Or.inr rfl) (pe_op op_gAdd (pv 11) (pe_fn (takes_of rfl rfl rfl rfl) c__law_planted (hr.mono (by decide)) (by rfl) (pa_cons (pv 2) (pa_cons (pv 3) (pa_cons (pv 12) (pa_cons (pe_ix (ix_seqK (K := K) rfl) (pv 3) (pe_op op_mod (pv 10) (pe_callB (call_lenK (K := K) rfl) (by rfl) (T.free 59) PySem.boot_len (pa_cons (pv 3) pa_nil))) (fun _ _ => rfl)) (pa_cons (pv 10) pa_nil))))))))) pss_nil)
        (pss_cons (ps_if (pt_cmpR (op_inK (K := K) rfl) pe_str (pv 11) (by rfl)) (pss_cons (ps_set (i := 13) sc_law.nd rfl (Or.inl rfl) (pe_callB (call_maxK (K := K) rfl rfl) (by rfl) (T.free 62) (by decide +kernel) (pa_cons (pe_lc (own := [("_law_one", 14)]) (g := gName 14) rfl sc_law.nd (pi_listK (K := K) rfl (pv 3)) (blkOk_by (own := [("_law_one", 14)]) (N := ["_law_script", "_law_old_words", "_law_heap", "_law_cells", "_law_cell", "_law_due", "_law_sound", "_law_kept", "_law_way", "_law_at", "_law_draw_here", "_law_planted_here", "_law_more", "_law_last", "_law_one", "_law_word", "_law_found", "_law_again"]) (sc := defScope s_law) (by decide +kernel)) (fun _ _ _ _ _ => (pg_name (i := 14) sc_law.nd rfl (Or.inl rfl))) (fun _ _ _ _ _ => pts_one (pt_cmpR (op_eqK (K := K) rfl hr.units) (pe_cmpR op_lt (pv 14) (pv 1) (nomark _)) (pe_cmpR op_lt (pv 9) (pv 1) (nomark _)) (nomark _))) (fun _ _ _ _ _ => (pv 14))) pa_nil)))
        (pss_cons (ps_expr (pe_mt (K := K) rfl (takes_of rfl rfl rfl rfl) (pe_fldC (T.cls 102) (T.noat 108) (pe_fldC (T.cls 154) (T.noat 165) (pv 2))) c_Memory_write (hr.mono (by decide)) (pa_cons (pv 13) (pa_cons (pe_ifExp (pt_cmpR op_lt (pe_fn (takes_of rfl rfl rfl rfl) c_slots_of (hr.mono (by decide)) (by rfl) (pa_cons (pe_fldC (T.cls 102) (T.noat 108) (pe_fldC (T.cls 154) (T.noat 165) (pv 2))) (pa_cons (pv 13) pa_nil))) pe_int (nomark _)) (pe_op op_gMul pe_int (pe_op op_gAdd (pe_op op_gMul pe_int pe_int) pe_int)) pe_int) pa_nil))))
        (pss_one (ps_ret (pe_cmpR (op_eqK (K := K) rfl hr.units) (pe_fn (takes_of rfl rfl rfl rfl) c_faults (hr.mono (by decide)) (by rfl) (pa_cons (pe_fldC (T.cls 154) (T.noat 165) (pv 2)) (pa_cons (pe_fldC (T.cls 154) (T.noat 164) (pv 2)) pa_nil))) (pe_lst (pa_cons pe_str pa_nil)) (nomark _)))))) pss_nil)
        (pss_cons (ps_set (i := 5) sc_law.nd rfl (Or.inr rfl) (pe_lc (own := [("_law_word", 15)]) (g := gName 15) rfl sc_law.nd (pi_listK (K := K) rfl (pe_lst (pa_cons pe_str (pa_cons pe_str (pa_cons pe_str (pa_cons pe_str pa_nil)))))) (blkOk_by (own := [("_law_word", 15)]) (N := ["_law_script", "_law_old_words", "_law_heap", "_law_cells", "_law_cell", "_law_due", "_law_sound", "_law_kept", "_law_way", "_law_at", "_law_draw_here", "_law_planted_here", "_law_more", "_law_last", "_law_one", "_law_word", "_law_found", "_law_again"]) (sc := defScope s_law) (by decide +kernel)) (fun _ _ _ _ _ => (pg_name (i := 15) sc_law.nd rfl (Or.inl rfl))) (fun _ _ _ _ _ => pts_one (pt_cmpR (op_inK (K := K) rfl) (pv 15) (pe_op op_gAdd (pv 11) (pv 5)) (by rfl))) (fun _ _ _ _ _ => (pv 15))))
        (pss_cons (ps_set (i := 16) sc_law.nd rfl (Or.inl rfl) (pe_fn (takes_of rfl rfl rfl rfl) c_faults (hr.mono (by decide)) (by rfl) (pa_cons (pe_fldC (T.cls 154) (T.noat 165) (pv 2)) (pa_cons (pe_fldC (T.cls 154) (T.noat 164) (pv 2)) pa_nil))))
        (pss_cons (ps_set (i := 17) sc_law.nd rfl (Or.inl rfl) (pe_fn (takes_of rfl rfl rfl rfl) c_faults (hr.mono (by decide)) (by rfl) (pa_cons (pe_fldC (T.cls 154) (T.noat 165) (pv 2)) (pa_cons (pe_fldC (T.cls 154) (T.noat 164) (pv 2)) pa_nil))))
        (pss_cons (ps_if (PW.pt (pw_or (pt_not (pt_val (pe_callB call_gIsi (by rfl) (T.free 58) (by decide +kernel) (pa_cons (pv 16) (pa_cons (pe_ty (T := "list") (T.free 68) (by decide +kernel) (by rfl)) pa_nil))))) (pw_or (pt_cmpR (op_neK (K := K) rfl hr.units) (pv 16) (pv 5) (nomark _)) (pw_or (pt_cmpR (op_neK (K := K) rfl hr.units) (pv 17) (pv 5) (nomark _)) (pw_or1 (pt_cmpR (op_neK (K := K) rfl hr.units) (pv 6) (pv 7) (nomark _))))))) (pss_one (ps_ret pe_bl)) pss_nil)
        (pss_cons (ps_expr (pe_bm PySem.F.plainAttrs_list PySem.F.slot_list_append PySem.F.type_list_append mt_append (pv 16) (pa_cons pe_str pa_nil)))
        (pss_one (ps_ret (pe_and (pe_cmpR (op_eqK (K := K) rfl hr.units) (pv 17) (pv 5) (nomark _)) (pe_one (pe_cmpR (op_eqK (K := K) rfl hr.units) (pe_fn (takes_of rfl rfl rfl rfl) c_faults (hr.mono (by decide)) (by rfl) (pa_cons (pe_fldC (T.cls 154) (T.noat 165) (pv 2)) (pa_cons (pe_fldC (T.cls 154) (T.noat 164) (pv 2)) pa_nil))) (pv 5) (nomark _))))))))))))))))))))))))))))))), ?rd⟩)
  case len => first | exact len_law h | (repeat (first | (obtain ⟨rfl, _⟩ := h; rfl; done) | obtain ⟨_, h⟩ := h))
  case rd =>
    obtain ⟨a, ns, rfl, hS, hl, q⟩ := h
    have sz : 1000 ≤ sizeLine := by rw [sizeLine_eq]; omega
    walk_at "w3"
    refine ⟨a, _, ns, rfl, hS, by omega, ?_⟩
    walk_at "w3"
    obtain ⟨n, en, hn⟩ : ∃ n : Nat, 30 + cell ns 0 % 40 = (n : Int) ∧ 30 ≤ n ∧ n ≤ 69 := ⟨(30 + cell ns 0 % 40).toNat, by omega, by omega⟩
    rw [en]
    refine ⟨a, _, ns, rfl, hS, by omega, ?_⟩
    walk_at "w3"
    obtain ⟨k, ek, hk⟩ : ∃ k : Nat, 4 + cell ns 0 / 40 % 6 = (k : Int) ∧ 4 ≤ k ∧ k ≤ 9 := ⟨(4 + cell ns 0 / 40 % 6).toNat, by omega, by omega⟩
    rw [ek]
    intro g gx ng ngx nge
    have ev1 : handsV (.int 3) = some 3 := rfl
    have ev2 : oldV (.int (n : Int)) = some n := by rw [oldV_int, if_pos (by omega), Int.toNat_natCast]
    have ev3 : youngV (.int (k : Int)) = some k := by rw [youngV_int, if_pos (by omega), Int.toNat_natCast]
    refine ⟨g, gx, _, _, _, rfl, upd_same, .inl ⟨_, rfl⟩, .inl ⟨_, rfl⟩, .inl ⟨_, rfl⟩, (fun hb => by rw [ev1, ev2, ev3] at hb; rcases hb with h | h | h <;> cases h), fun n' o' y' e1 e2 e3 G U H2 eG eT I2 zz k2 => ?_⟩
    cases ev1.symm.trans e1
    cases ev2.symm.trans e2
    cases ev3.symm.trans e3
    subst eG
    have sm := same_mk (C := He.ga K "Heap") ng ngx nge
    have s2 : Same H H2 := fun b o e => k2 _ _ (ne_of_none e ng) (sm _ _ e)
    have zn : ∀ c, c = G.A.a ∨ c = G.A.l ∨ c = G.A.o ∨ c = G.A.p ∨ c = G.A.q ∨ c = G.R.h ∨ c = G.R.hl ∨ c = G.R.b ∨ c = U.bd ∨ c = G.R.w ∨ c = G.R.wl ∨ c = G.R.la ∨ c = G.R.d ∨ c = G.R.e → H c = none := fun c m => none_of sm (zz c m)
    have I0 : I20 K G H2 (arS n k) U [] [] [] 0 := by
      rw [eT] at I2 ⊢
      refine { he := I2, ce := CelP.nil, cl := fun w mw => ?_, cr := (fun c m => (List.not_mem_nil m).elim), fl := rfl, bk := fun x => Iff.rfl, ln := Nat.zero_le _, t1 := .nil, t2 := .nil, mo := fun x => ⟨fun z => (List.not_mem_nil z).elim, fun ⟨c, m, _⟩ => (List.not_mem_nil m).elim⟩, my := fun x => ⟨fun z => (List.not_mem_nil z).elim, fun ⟨c, m, _⟩ => (List.not_mem_nil m).elim⟩, ag := (fun c m => (List.not_mem_nil m).elim), tn := (fun c m => (List.not_mem_nil m).elim), wn := (fun c m => (List.not_mem_nil m).elim) }
      rw [(List.mem_replicate.mp mw).2]
      exact ⟨ClW.non, rfl⟩
    have ml : U.hs.length = 3 := by rw [eT, List.length_replicate]
    have ets : U.ts = [] := by rw [eT]
    have ews : U.ws = [] := by rw [eT]
    refine ⟨rfl, by omega, fun l0 nl0 => ?_⟩
    have s3 := same_new (o := .lst []) nl0
    have I3 := I0.same s3
    have L3 : Li G U.bd (upd H2 l0 (.lst [])) l0 [] := ⟨upd_same, I2.offl nl0, (ne_of_none I2.ro.bo.ds nl0).symm⟩
    have hA := zn G.A.l (.inr (.inl rfl))
    have hO := zn G.A.o (.inr (.inr (.inl rfl)))
    have hP := zn G.A.p (.inr (.inr (.inr (.inl rfl))))
    have hQ := zn G.A.q (.inr (.inr (.inr (.inr (.inl rfl)))))
    have hH := zn G.R.hl (.inr (.inr (.inr (.inr (.inr (.inr (.inl rfl)))))))
    have hB := zn U.bd (.inr (.inr (.inr (.inr (.inr (.inr (.inr (.inr (.inl rfl)))))))))
    have hW := zn G.R.wl (.inr (.inr (.inr (.inr (.inr (.inr (.inr (.inr (.inr (.inr (.inl rfl)))))))))))
    have hD := zn G.R.d (.inr (.inr (.inr (.inr (.inr (.inr (.inr (.inr (.inr (.inr (.inr (.inr (.inl rfl)))))))))))))
    have hE := zn G.R.e (.inr (.inr (.inr (.inr (.inr (.inr (.inr (.inr (.inr (.inr (.inr (.inr (.inr rfl)))))))))))))
    have kpS : ∀ {Ha Hb}, Same H Ha → Kp G U.bd Ha Hb → Same H Hb := fun s k b o e => k b o (ne_of_none e hA) (ne_of_none e hO) (ne_of_none e hP) (ne_of_none e hQ) (ne_of_none e hH) (ne_of_none e hB) (s _ _ e)
    have kqS : ∀ {Ha Hb}, Same H Ha → Kq G U.bd Ha Hb → Same H Hb := fun s k b o e => k b o ⟨ne_of_none e hA, ne_of_none e hH, ne_of_none e hW, ne_of_none e hD, ne_of_none e hE⟩ (ne_of_none e hB) (s _ _ e)
    have s03 := s2.trans s3
    generalize upd H2 l0 (.lst []) = H3 at s3 I3 L3 s03 ⊢
    have in0 : inOld (arS n k) 0 = false := by unfold inOld; rw [decide_eq_true (show 0 + 1 ≤ (arS n k).k from by show 0 + 1 ≤ k; omega)]; rfl
    have fit0 : 0 + 1 ≤ endA (arS n k) (inOld (arS n k) 0) - topA (arS n k) (inOld (arS n k) 0) := by
      rw [in0]
      show 0 + 1 ≤ (n + k) - n
      omega
    refine ⟨recv I3.he.ob, G, arS n k, U, _, _, rfl, I3.he, .inl ⟨_, rfl⟩, .inl ⟨_, rfl⟩, ?_⟩
    have em := mk_fits (S := arS n k) (hs := U.hs) (i := 0) (s := 0) (by omega) (by omega)
    rw [if_pos fit0] at em
    rw [show mkW (arS n k) U.hs (.int 0) (.int 0) = .ok 0 0 from em]
    intro H4 I4 k4
    have J4 := I3.lay (H' := H4) (i := 0) (s := 0) (by omega) fit0 I4
    have s04 := kpS s03 (fun b o h1 h2 h3 h4 h5 _ g => k4 b o h1 h2 h3 h4 h5 g)
    have L4 : Li G U.bd H4 l0 [] := ⟨k4 _ _ L3.of.1 (ne_of L3.ls I3.he.ar.so fun z => spv_lst z.symm) (ne_of L3.ls I3.he.ar.sp fun z => spv_lst z.symm) (ne_of L3.ls I3.he.ar.sq fun z => spv_lst z.symm) L3.of.2.1 L3.ls, L3.of, L3.nb⟩
    obtain ⟨S4, eS4⟩ : ∃ S4, S4 = laidS (arS n k) (inOld (arS n k) 0) 0 := ⟨_, rfl⟩
    have n4 : S4.n = n := by rw [eS4]; exact laidS_same.2.1
    have et : topA (arS n k) (inOld (arS n k) 0) = n := by rw [in0]; rfl
    rw [← eS4, et, in0] at J4
    clear eS4 I4 k4
    have J4 : I20 K G H4 S4 { U with hs := U.hs.set 0 (2 * (n : Int) + 1) } [⟨n, G.g, []⟩] [] [n] 1 := J4
    have h40 : (U.hs.set 0 (2 * (n : Int) + 1)).getD 0 0 = 2 * (n : Int) + 1 := by rw [getD_set (by omega), if_pos rfl]
    have wn4 : wordOf (2 * (n : Int) + 1) = some (.place n) := word_place (by omega) (by omega)
    have pn4 : placeW (.int (n : Int)) = some (n : Int) := by rw [placeW_int, if_pos ⟨by omega, by omega⟩]
    walk_at "w3"
    have w40 : wordOf ((U.hs.set 0 (2 * (n : Int) + 1)).getD 0 0) = some (.place n) := by rw [h40]; exact wn4
    have l4 : (U.hs.set 0 (2 * (n : Int) + 1)).length = 3 := (List.length_set ..).trans ml
    refine ⟨_, fldIs J4.he.ob, _, fldIs J4.he.ro.ob, recv J4.he.ro.wo.ob, recv J4.he.ob, cellOf (i := 0) (p := (n : Int)) J4.he (by show 0 < (U.hs.set 0 _).length; omega) w40 ?_⟩
    refine ⟨_, _, _, _, _, rfl, J4.he.ro.wo, by show U.ts.length < _; rw [ets]; show 0 < 1000000; omega, .inl ⟨_, rfl⟩, ?_⟩
    rw [pn4]
    dsimp only
    rw [ets]
    have he5 := J4.he.wkput (us := [] ++ [.int (n : Int)])
    have s05 : Same H (upd H4 G.R.wl (.lst ([] ++ [.int (n : Int)]))) := fun b o e => (upd_ne (ne_of_none e hW)).trans (s04 _ _ e)
    have L5 : Li G U.bd (upd H4 G.R.wl (.lst ([] ++ [.int (n : Int)]))) l0 [] := ⟨(upd_ne L4.of.2.2.1).trans L4.ls, L4.of, L4.nb⟩
    generalize upd H4 G.R.wl (.lst ([] ++ [.int (n : Int)])) = H5 at he5 s05 L5 ⊢
    refine ⟨_, fldIs he5.ob, _, fldIs he5.ro.ob, recv he5.ro.lo.ob, recv he5.ob, cellOf (i := 0) (p := (n : Int)) he5 (by show 0 < (U.hs.set 0 _).length; omega) w40 ?_⟩
    refine ⟨_, _, _, _, _, _, _, _, _, rfl, he5.ro.lo, by show U.ws.length < _; rw [ews]; show 0 < 1000000; omega, .inl ⟨_, rfl⟩, .inl ⟨_, rfl⟩, ?_⟩
    rw [pn4, show numW (.int 5) = some 5 from rfl]
    dsimp only
    rw [ews]
    intro H6 rs6 L6' k6
    have he6 := he5.lsput L6' fun c o h1 _ g => k6 c o h1 g
    have s06 : Same H H6 := fun b o e => k6 _ _ (ne_of_none e hD) (s05 _ _ e)
    have L6 : Li G U.bd H6 l0 [] := ⟨k6 _ _ L5.of.2.2.2.1 L5.ls, L5.of, L5.nb⟩
    have J6 : I20 K G H6 S4 { hs := U.hs.set 0 (2 * (n : Int) + 1), bd := U.bd, bs := U.bs, ts := [.int (n : Int)], rs := rs6, ws := [some ((n : Int), 5)], ss := U.ss } [⟨n, G.g, []⟩] [] [n] 1 := { he := he6, ce := J4.ce, cl := J4.cl, cr := J4.cr, fl := J4.fl, bk := J4.bk, ln := J4.ln, t1 := J4.t1, t2 := J4.t2, mo := J4.mo, my := J4.my, ag := J4.ag, tn := fun x mx => ⟨_, List.mem_singleton.mpr rfl, List.mem_singleton.mp mx⟩, wn := fun x mx => ⟨_, List.mem_singleton.mpr rfl, List.mem_singleton.mp mx⟩ }
    refine ⟨.inl ⟨rfl, _, .of L6.ls⟩, recv he6.ob, cellOf (i := 0) (p := (n : Int)) he6 (by show 0 < (U.hs.set 0 _).length; omega) w40 ?_⟩
    refine ⟨l0, _, _, rfl, rfl, L6.ls, by show 0 < sizeLine; omega, ?_⟩
    have J7 := { J6 with he := J6.he.off (o := .lst ([] ++ [V.int (n : Int)])) L6.ls L6.of }
    have s07 : Same H (upd H6 l0 (.lst ([] ++ [V.int (n : Int)]))) := fun b o e => (upd_ne (ne_of_none (s2 _ _ e) nl0)).trans (s06 _ _ e)
    have L7 : Li G U.bd (upd H6 l0 (.lst ([] ++ [V.int (n : Int)]))) l0 ((psC [⟨n, G.g, []⟩]).map V.int) := ⟨upd_same, L6.of, L6.nb⟩
    generalize upd H6 l0 (.lst ([] ++ [V.int (n : Int)])) = H7 at J7 s07 L7 ⊢
    refine ⟨a, _, rfl, s07.seq hS, fun q1 nq1 => ?_⟩
    obtain ⟨cs, ec⟩ := cut_ints ns (some 3) (some 13)
    have cl := cut_len (xs := ns.map V.int) (a := 3) (b := 13) (by decide) (by decide)
    rw [ec] at cl ⊢
    rw [List.length_map] at cl
    have s8 := same_new (o := .lst (cs.map V.int)) nq1
    have q8 : upd H7 q1 (.lst (cs.map V.int)) q1 = some (.lst (cs.map V.int)) := upd_same
    have q1h := none_of s07 nq1
    have L8 : Li G U.bd (upd H7 q1 (.lst (cs.map V.int))) q1 (cs.map V.int) := ⟨q8, J7.he.offl nq1, (ne_of_none J7.he.ro.bo.ds nq1).symm⟩
    have J8 := J7.same s8
    have L78 := L7.same s8
    have s08 := s07.trans s8
    clear J4 J6 he5 he6 L6' L3 L4 L5 L6 I3
    generalize upd H7 q1 (.lst (cs.map V.int)) = H8 at J8 s08 L8 L78 ⊢
    walk_at "w3"
    refine ⟨⟨_, .of L8.ls⟩, forW_list (xs := cs.map V.int) (fun i σ H' => ∃ S U' C os ys l o4, σ = [some (.ref a), some (.int (n : Int)), some (.ref G.g), some (.ref l), o4, none, none, none, none, none, none, none, none, none, none, none, none, none] ∧ I20 K G H' S U' C os ys (i + 1) ∧ U'.hs.length = 3 ∧ U'.bd = U.bd ∧ U'.ts = [.int (n : Int)] ∧ U'.ws = [some ((n : Int), 5)] ∧ S.n = n ∧ 0 < C.length ∧ Same H H' ∧ Li G U.bd H' l ((psC C).map V.int) ∧ Li G U.bd H' q1 (cs.map V.int)) ⟨_, _, _, _, _, _, _, rfl, J8, l4, rfl, rfl, rfl, n4, Nat.one_pos, s08, L78, L8⟩ ?_ ?_ ?_⟩
    · rintro i σ H' hi ⟨S, U', C, os, ys, l, o4, rfl, J, h3, eb, et, ew, en', c0, sH, Ll, Lq⟩
      exact .of Lq.ls
    · rintro i x σ H' hx ⟨S, U', C, os, ys, l, o4, rfl, J, h3, eb, et, ew, en', c0, sH, Ll, Lq⟩
      have i20 : i < 20 := by
        have := (List.getElem?_eq_some_iff.mp hx).1
        rw [List.length_map] at this
        omega
      obtain ⟨c, rfl, -⟩ := ints_mem hx
      walk_at "w3"
      refine ⟨G, S, U', C, os, ys, i + 1, c, rfl, J, h3, by omega, fun S2 U2 C2 os2 ys2 ns2 H2' p J2 l2 b2 t2 w2 ss2 n2 ps2 np hp op k2 => ?_⟩
      have kl : ∀ {z xs}, Li G U.bd H' z xs → Li G U.bd H2' z xs := fun L => ⟨k2 _ _ L.of.1 (ne_of L.ls J.he.ar.so fun z => spv_lst z.symm) (ne_of L.ls J.he.ar.sp fun z => spv_lst z.symm) (ne_of L.ls J.he.ar.sq fun z => spv_lst z.symm) L.of.2.1 (by rw [eb]; exact L.nb) L.ls, L.of, L.nb⟩
      have Ll2 := kl Ll
      have cl2 : C2.length ≤ 30 := by have := J2.ln; omega
      have pl2 : (psC C2).length = C2.length := by unfold psC; rw [List.length_map]
      rw [ps2, List.length_append] at pl2
      have sH2 := kpS sH (by rw [← eb]; exact k2)
      refine ⟨_, _, Ll2.ls, hp, by rw [List.length_map, List.length_map]; omega, fun r nr => ?_⟩
      have s3 := same_new (o := .lst ((psC C).map V.int ++ ns2.map V.int)) nr
      refine ⟨S2, U2, C2, os2, ys2, r, _, rfl, J2.same s3, l2, b2.trans eb, t2.trans et, w2.trans ew, n2.trans en', ?_, sH2.trans s3, ⟨?_, J2.he.offl nr, by rw [← eb, ← b2]; exact (ne_of_none J2.he.ro.bo.ds nr).symm⟩, (kl Lq).same s3⟩
      · have : (psC C).length = C.length := by unfold psC; rw [List.length_map]
        omega
      · rw [upd_same, ps2, List.map_append]
    · rintro σ H' ⟨S, U', C, os, ys, l, o4, rfl, J, h3, eb, et, ew, en', c0, sH, Ll, -⟩
      rw [List.length_map] at J
      have cl100 : C.length ≤ 11 := by have := J.ln; omega
      have B0 := { J.j h3 ⟨_, et⟩ ⟨_, _, ew⟩ with bl := (by have := J.bl; omega : U'.bs.length ≤ 100) }
      clear J
      have ebS0 : S.b S.fl = S.n := B0.P.g.b
      rw [← eb] at Ll
      have kqS' : ∀ {Ha Hb}, Same H Ha → Kq G U'.bd Ha Hb → Same H Hb := fun s k => kqS s (by rw [← eb]; exact k)
      walk_at "w3"
      refine ⟨by omega, fun d0 nd0 => ?_⟩
      have s1 := same_new (o := .lst []) nd0
      have Ld := B0.li (xs := []) nd0
      have B1 := B0.same s1
      have Ll1 := Ll.same s1
      have sH1 := sH.trans s1
      clear B0
      generalize upd H' d0 (.lst []) = H1' at B1 Ld Ll1 sH1 ⊢
      refine ⟨fun σ' Hx => σ' = [some (.ref a), some (.int (n : Int)), some (.ref G.g), some (.ref l), o4, some (.ref d0), none, none, none, none, none, none, none, none, none, none, none, none] ∧ J20 K G Hx S U' C os ys false false false 100 ∧ Same H Hx ∧ Li G U'.bd Hx l ((psC C).map V.int) ∧ Li G U'.bd Hx d0 (fltL false false (decide ((S.n : Int) < (S.ot : Int) + ((S.t S.fl : Int) - S.b S.fl))) false), ?_, ?_⟩
      · refine ⟨_, fldIs B1.he.ob, _, fldIs B1.he.ar.ob, recv B1.he.ar.so, _, _, _, _, _, rfl, B1.he.ar.so, _, fldIs B1.he.ob, _, fldIs B1.he.ar.ob, recv (B1.he.ar.half S.fl), _, _, _, _, _, rfl, B1.he.ar.half S.fl, ?_⟩
        walk_at "w3"
        rw [show (S.ot : Int) - (0 : Nat) = (S.ot : Int) from by omega, ← en']
        by_cases g : (S.n : Int) < (S.ot : Int) + ((S.t S.fl : Int) - S.b S.fl)
        · rw [if_pos g, decide_eq_true g]
          refine ⟨.inl ⟨rfl, _, .of Ld.ls⟩, d0, _, _, rfl, rfl, Ld.ls, by show 0 < sizeLine; omega, ?_⟩
          have ne : l ≠ d0 := ne_of_none Ll.ls nd0
          refine ⟨{ B1 with he := B1.he.off Ld.ls Ld.of }, fun b o e => (upd_ne (ne_of_none (sH _ _ e) nd0)).trans (sH1 _ _ e), ⟨(upd_ne ne).trans Ll1.ls, Ll1.of, Ll1.nb⟩, ⟨upd_same, Ld.of, Ld.nb⟩⟩
        · rw [if_neg g, decide_eq_false g]
          exact ⟨B1, sH1, Ll1, Ld⟩
      clear B1 Ld Ll1 sH1 Ll sH s1
      rintro σ' H1' ⟨rfl, B1, sH, Ll, Ld⟩
      obtain ⟨rm, erm⟩ : ∃ rm, rm = decide ((S.n : Int) < (S.ot : Int) + ((S.t S.fl : Int) - S.b S.fl)) := ⟨_, rfl⟩
      rw [← erm] at Ld
      obtain ⟨dsr, pr⟩ := fltP (b1 := false) (b2 := false) (b3 := rm) (b4 := false)
      walk_at "w3"
      refine ⟨_, fldIs B1.he.ob, _, fldIs B1.he.ob, B1.faults (by omega) fun r1 H2' nr1 s2' hr1 => ?_⟩
      have B2 := B1.same s2'
      have Ll2 := Ll.same s2'
      have Ld2 := Ld.same s2'
      rw [← erm] at hr1
      have Lr2 : Li G U'.bd H2' r1 (fltL false false rm false) := ⟨hr1, B1.he.offl nr1, (ne_of_none B1.he.ro.bo.ds nr1).symm⟩
      have sH2 := sH.trans s2'
      clear B1 Ll Ld sH s2'
      refine ⟨d0, _, rfl, .inl (.of Ld2.ls), fun kp nk => ?_⟩
      have s3' := same_new (o := .lst (fltL false false rm false)) nk
      have Lk3 := B2.li (xs := fltL false false rm false) nk
      have B3 := B2.same s3'
      have Ll3 := Ll2.same s3'
      have Ld3 := Ld2.same s3'
      have Lr3 := Lr2.same s3'
      have sH3 := sH2.trans s3'
      clear B2 Ll2 Ld2 Lr2 sH2
      generalize upd H2' kp (.lst (fltL false false rm false)) = H3' at B3 Ll3 Ld3 Lr3 Lk3 sH3 ⊢
      refine r_nePlT Lr3.ls Ld3.ls pr ?_
      walk_at "w3"
      refine ⟨_, fldIs B3.he.ob, _, fldIs B3.he.ob, B3.faults (by omega) fun r2 H4' nr2 s4' hr2 => ?_⟩
      rw [← erm] at hr2
      refine r_nePlT hr2 (Ld3.same s4').ls pr ?_
      walk_at "w3"
      have B4 := B3.same s4'
      have Ll4 := Ll3.same s4'
      have Ld4 := Ld3.same s4'
      have Lr4 := Lr3.same s4'
      have Lk4 := Lk3.same s4'
      have sH4 := sH3.trans s4'
      clear B3 Ll3 Ld3 Lr3 Lk3 sH3
      refine ⟨a, _, ns, rfl, sH4.seq hS, by omega, ?_⟩
      walk_at "w3"
      refine ⟨a, _, ns, rfl, sH4.seq hS, by omega, ?_⟩
      walk_at "w3"
      refine r_lenL Ll4.ls ?_
      have lC : (psC C).length = C.length := by unfold psC; rw [List.length_map]
      walk_at "w3"
      rw [List.length_map, lC]
      obtain ⟨way, eway⟩ : ∃ w, w = cell ns 1 % 8 := ⟨_, rfl⟩
      have m0 := Int.emod_nonneg (cell ns 1 / 8) (show (C.length : Int) ≠ 0 by omega)
      have m1 := Int.emod_lt_of_pos (cell ns 1 / 8) (show (0 : Int) < C.length by omega)
      obtain ⟨ix, eix⟩ := Int.eq_ofNat_of_zero_le m0
      rw [← eway, eix]
      have hix : ix < C.length := by omega
      obtain ⟨c, ec⟩ : ∃ c, C[ix]? = some c := ⟨_, List.getElem?_eq_getElem hix⟩
      have mc := List.mem_of_getElem? ec
      refine ⟨by omega, r_ixL Ll4.ls (by unfold psC; rw [List.map_map, List.getElem?_map, ec]; rfl) ?_⟩
      refine ⟨a, _, ns, rfl, sH4.seq hS, by omega, ?_⟩
      walk_at "w3"
      refine ⟨G, S, U', C, os, ys, false, 100, l, c, mc, way, _, rfl, B4, by omega, by omega, Ll4.ls, Ll4.of, by omega, by omega, fun _ => rfl, fun S5 U5 H5' p5 sn bk ag wk B5 ub5 n5 o5 t5 w5 w5' np5 hp5 of5 nb5 k5 => ?_⟩
      rw [Bool.false_or] at B5
      have sH5 := kqS' sH4 k5
      have Lp5 : Li G U'.bd H5' p5 (plL sn bk ag wk) := ⟨hp5, of5, nb5⟩
      have Ll5 := Ll4.kq k5
      have Ld5 := Ld4.kq k5
      have Lr5 := Lr4.kq k5
      have Lk5 := Lk4.kq k5
      clear B4 Ll4 Ld4 Lr4 Lk4 sH4
      refine ⟨a, _, ns, rfl, sH5.seq hS, by omega, ?_⟩
      walk_at "w3"
      obtain ⟨more, emore⟩ : ∃ w, w = cell ns 2 % 8 := ⟨_, rfl⟩
      rw [← emore]
      have lt5 := B5.he.ar.lt S5.fl
      refine ⟨fun σ' Hx => ∃ p6 S6 U6 st6 bk6 ag6 wk6, σ' = [some (.ref a), some (.int (n : Int)), some (.ref G.g), some (.ref l), o4, some (.ref d0), some (.ref r1), some (.ref kp), some (.int way), some (.int (c.p : Int)), some (.int (cell ns 2 / 8)), some (.ref p6), some (.int more), none, none, none, none, none] ∧ J20 K G Hx S6 U6 C os ys st6 bk6 ag6 102 ∧ U6.bd = U'.bd ∧ S6.n = S.n ∧ S6.ot = S.ot ∧ S6.t S6.fl = S.t S.fl ∧ Same H Hx ∧ Li G U'.bd Hx p6 (plL st6 bk6 ag6 wk6) ∧ Li G U'.bd Hx l ((psC C).map V.int) ∧ Li G U'.bd Hx d0 (fltL false false rm false) ∧ Li G U'.bd Hx r1 (fltL false false rm false) ∧ Li G U'.bd Hx kp (fltL false false rm false), ?_, ?_⟩
      · have skip : ∃ p6 S6 U6 st6 bk6 ag6 wk6, [some (V.ref a), some (.int (n : Int)), some (.ref G.g), some (.ref l), o4, some (.ref d0), some (.ref r1), some (.ref kp), some (.int way), some (.int (c.p : Int)), some (.int (cell ns 2 / 8)), some (.ref p5), some (.int more), none, none, none, none, none] = [some (.ref a), some (.int (n : Int)), some (.ref G.g), some (.ref l), o4, some (.ref d0), some (.ref r1), some (.ref kp), some (.int way), some (.int (c.p : Int)), some (.int (cell ns 2 / 8)), some (.ref p6), some (.int more), none, none, none, none, none] ∧ J20 K G H5' S6 U6 C os ys st6 bk6 ag6 102 ∧ U6.bd = U'.bd ∧ S6.n = S.n ∧ S6.ot = S.ot ∧ S6.t S6.fl = S.t S.fl ∧ Same H H5' ∧ Li G U'.bd H5' p6 (plL st6 bk6 ag6 wk6) ∧ Li G U'.bd H5' l ((psC C).map V.int) ∧ Li G U'.bd H5' d0 (fltL false false rm false) ∧ Li G U'.bd H5' r1 (fltL false false rm false) ∧ Li G U'.bd H5' kp (fltL false false rm false) :=
          ⟨p5, S5, U5, sn, bk, ag, wk, rfl, { B5 with bl := Nat.le_trans B5.bl (by decide) }, ub5, n5, o5, t5, sH5, Lp5, Ll5, Ld5, Lr5, Lk5⟩
        split
        · split
          · split
            · rename_i c1 c2 c3
              obtain ⟨rfl, rfl, rfl⟩ := w5 c3
              refine r_lenL Ll5.ls ?_
              walk_at "w3"
              rw [List.length_map, lC]
              have m0 := Int.emod_nonneg (cell ns 2 / 8) (show (C.length : Int) ≠ 0 by omega)
              have m1 := Int.emod_lt_of_pos (cell ns 2 / 8) (show (0 : Int) < C.length by omega)
              obtain ⟨iy, eiy⟩ := Int.eq_ofNat_of_zero_le m0
              rw [eiy]
              have hiy : iy < C.length := by omega
              obtain ⟨c', ec'⟩ : ∃ c', C[iy]? = some c' := ⟨_, List.getElem?_eq_getElem hiy⟩
              have mc' := List.mem_of_getElem? ec'
              refine ⟨by omega, r_ixL Ll5.ls (by unfold psC; rw [List.map_map, List.getElem?_map, ec']; rfl) ?_⟩
              refine ⟨G, S5, U5, C, os, ys, sn, 101, l, c', mc', more, _, rfl, { B5 with bl := Nat.le_trans B5.bl (by decide) }, by omega, by omega, Ll5.ls, Ll5.of, by omega, by omega, fun z => by omega, fun S6 U6 H6' p6 sn6 bk6 ag6 wk6 B6 ub6 n6 o6 t6 w6 w6' np6 hp6 of6 nb6 k6 => ?_⟩
              have e6 := w6' (by omega)
              subst e6
              rw [Bool.or_false] at B6
              rw [ub5] at k6 nb6
              have Lp6 : Li G U'.bd H6' p6 (plL false bk6 ag6 wk6) := ⟨hp6, of6, nb6⟩
              have Lp56 := Lp5.kq k6
              have ql : ∀ b1 b2 b3 b4, (plL b1 b2 b3 b4).length ≤ 4 := by
                intro b1 b2 b3 b4
                cases b1 <;> cases b2 <;> cases b3 <;> cases b4 <;> decide
              have ql1 := ql sn false false false
              have ql2 := ql false bk6 ag6 wk6
              refine ⟨_, _, Lp56.ls, Lp6.ls, by omega, fun r nr => ?_⟩
              have s7 := same_new (o := .lst (plL sn false false false ++ plL false bk6 ag6 wk6)) nr
              have Lr7 := B6.li (xs := plL sn false false false ++ plL false bk6 ag6 wk6) nr
              rw [ub6, ub5] at Lr7
              have epl : plL sn false false false ++ plL false bk6 ag6 wk6 = plL sn bk6 ag6 wk6 := by
                cases sn <;> rfl
              rw [epl] at s7 Lr7 ⊢
              exact ⟨r, S6, U6, sn, bk6, ag6, wk6, rfl, B6.same s7, ub6.trans ub5, n6.trans n5, o6.trans o5, t6.trans t5, (kqS sH5 (by rw [← eb]; exact k6)).trans s7, Lr7, (Ll5.kq k6).same s7, (Ld5.kq k6).same s7, (Lr5.kq k6).same s7, (Lk5.kq k6).same s7⟩
            · exact skip
          · exact skip
        · exact skip
      clear B5 Ll5 Ld5 Lr5 Lk5 sH5 Lp5 k5 np5 hp5 of5 nb5 lt5
      rintro σ' Hx ⟨p6, S6, U6, st6, bk6, ag6, wk6, rfl, B6, ub6, n6, o6, t6, sH6, Lp6, Ll6, Ld6, Lr6, Lk6⟩
      walk_at "w3"
      refine r_inL (.of Lp6.ls) rfl plL_flat ?_
      rw [inV_walk]
      walk_at "w3"
      have kq6 : ∀ {Ha Hb}, Same H Ha → Kq G U'.bd Ha Hb → Same H Hb := kqS'
      by_cases cw : wk6 = true
      · subst cw
        rw [if_pos rfl]
        refine ⟨⟨_, .of Ll6.ls⟩, fun D nD => ?_⟩
        refine lc_iffL (xs := (psC C).map V.int) (g := gSame (n : Int) (c.p : Int)) (fun _ => rfl) (fun acc => .of ((upd_ne (ne_of_none Ll6.ls nD)).trans Ll6.ls)) (by rw [List.length_map]; omega) (fun i x hx acc N n1 n2 => ?_) (fun i x y hx hy acc Q2 q2 => ?_) ?_
        · obtain ⟨m, rfl, -⟩ := ints_mem hx
          walk_at "w3"
          by_cases h : decide (m < (n : Int)) = decide ((c.p : Int) < (n : Int))
          · have z := n1 (by show (if decide (m < (n : Int)) = decide ((c.p : Int) < (n : Int)) then some (V.int m) else none).isSome = true; rw [if_pos h]; rfl)
            rw [h, beq_self_eq_true]
            exact z
          · have z := n2 (by show (if decide (m < (n : Int)) = decide ((c.p : Int) < (n : Int)) then some (V.int m) else none).isSome = false; rw [if_neg h]; rfl)
            rw [show (decide (m < (n : Int)) == decide ((c.p : Int) < (n : Int))) = false from by rw [beq_eq_false_iff_ne]; exact h]
            exact z
        · obtain ⟨m, rfl, -⟩ := ints_mem hx
          have hy : (if decide (m < (n : Int)) = decide ((c.p : Int) < (n : Int)) then some (V.int m) else none) = some y := hy
          walk_at "w3"
          split at hy
          · cases hy
            exact q2
          · cases hy
        rw [gSame_map]
        obtain ⟨fs, efs⟩ : ∃ fs, fs = (psC C).filter fun x => decide (decide (x < (n : Int)) = decide ((c.p : Int) < (n : Int))) := ⟨_, rfl⟩
        rw [← efs]
        have mfs : ∀ x, x ∈ fs ↔ ∃ b ∈ C, x = (b.p : Int) ∧ (b.p < S6.n ↔ c.p < S6.n) := fun x => by
          rw [efs, List.mem_filter, decide_eq_true_eq, n6, en']
          unfold psC
          rw [List.mem_map]
          constructor
          · rintro ⟨⟨b, mb, rfl⟩, h⟩
            refine ⟨b, mb, rfl, ?_⟩
            rw [decide_eq_decide] at h
            omega
          · rintro ⟨b, mb, rfl, h⟩
            refine ⟨⟨b, mb, rfl⟩, ?_⟩
            rw [decide_eq_decide]
            omega
        have s7 := same_new (o := .lst (fs.map V.int)) nD
        have B7 := B6.same s7
        have hD7 : upd Hx D (.lst (fs.map V.int)) D = some (.lst (fs.map V.int)) := upd_same
        generalize upd Hx D (.lst (fs.map V.int)) = H7 at B7 hD7 ⊢
        refine ⟨D, fs, rfl, .of hD7, List.length_pos_of_mem ((mfs _).mpr ⟨c, mc, rfl, Iff.rfl⟩), fun m mm le => ?_⟩
        obtain ⟨d, md, rfl, hd⟩ := (mfs m).mp mm
        have le' : ∀ b ∈ C, (b.p < S6.n ↔ d.p < S6.n) → b.p ≤ d.p := fun b mb h => by
          have := le _ ((mfs _).mpr ⟨b, mb, rfl, h.trans hd⟩)
          omega
        obtain ⟨e1, e9, kk, ek1, ek4⟩ := B7.hd md
        have c8 := B7.c8 d md
        refine ⟨_, fldIs B7.he.ob, _, fldIs B7.he.ar.ob, recv B7.he.ar.me.ob, _, fldIs B7.he.ob, _, fldIs B7.he.ar.ob, G.A.m, G.A.mx, G.A.l, S6.ws, _, rfl, B7.he.ar.me, B7.he.ar.vw, .inl ⟨_, rfl⟩, ?_⟩
        rw [ek1]
        dsimp only
        walk_at "w3"
        rw [ek4]
        have fin : ∀ x : Int, ((d.ws.length < 8 ∧ x = 68) ∨ (d.ws.length = 8 ∧ x = 0)) → (wordOf x).isSome = true → sp_Memory_write K [.ref G.A.m, .int (d.p : Int), .int x] H7 (fun x H1 => ∃ v, FldIs (He.ga K (Str.ofString "Heap")) (Str.ofString "areas") (V.ref G.g) H1 v ∧ ∃ v_3, FldIs (He.ga K (Str.ofString "Heap")) (Str.ofString "roots") (V.ref G.g) H1 v_3 ∧ sp_faults K [v, v_3] H1 (fun x H1 => 1 ≤ sizeLine ∧ ∀ (p : Addr), H1 p = none → gEq K x (V.ref p) (upd H1 p (HO.lst [V.str (Str.ofString "walk")])) Q) fun c d H3 => E c d H3) (fun c d H3 => E c d H3) := by
          intro x hx wx
          refine ⟨_, _, _, _, _, _, rfl, B7.he.ar.me, .inl ⟨_, rfl⟩, .inl ⟨_, rfl⟩, ?_⟩
          rw [placeOf_int, if_pos ⟨by omega, by omega⟩, wordV_int, if_pos wx, Int.toNat_natCast]
          dsimp only
          have he8 := B7.he.wput (B7.he.ar.vw.set (i := d.p) wx) (List.length_set ..)
          obtain ⟨n1, en1⟩ := B7.t1
          obtain ⟨n2, b2, ew2⟩ := B7.w1
          have bl := B7.bl
          refine ⟨_, fldIs he8.ob, _, fldIs he8.ob, ?_⟩
          refine ⟨G.A, { S6 with ws := S6.ws.set d.p x }, G.R, U6, rfl, he8.ar, he8.ro, by rw [en1]; show 1 < 1000000; omega, (fun t mt => by rw [en1] at mt; rw [List.mem_singleton.mp mt]; rfl), by rw [ew2]; show 1 < 1000000; omega, by rw [B7.h3]; omega, by omega, .inl ⟨B7.P.g.walk md le' hx, fun l9 H9 nl9 s9 hl9 => ⟨by omega, fun p np => ?_⟩⟩⟩
          have s10 := same_new (o := .lst [.str "walk"]) np
          exact r_eqPlT (s10 _ _ hl9) upd_same (.cons (.str _ (by decide +kernel)) .nil) (q _)
        split
        · exact fin 68 (.inl ⟨by omega, rfl⟩) rfl
        · exact fin 0 (.inr ⟨by omega, rfl⟩) rfl
      have cw : wk6 = false := by
        cases wk6
        · rfl
        · exact absurd rfl cw
      subst cw
      rw [if_neg Bool.false_ne_true]
      refine ⟨by omega, fun p np => ?_⟩
      have s7 := same_new (o := .lst [.str "stray", .str "book", .str "room", .str "age"]) np
      have hp7 : upd Hx p (.lst [.str "stray", .str "book", .str "room", .str "age"]) p = some (.lst due4) := upd_same
      generalize upd Hx p (.lst [.str "stray", .str "book", .str "room", .str "age"]) = H7 at s7 hp7 ⊢
      refine ⟨⟨_, .of hp7⟩, fun D nD => ?_⟩
      refine lc_list (xs := due4) (fun i Hy => Same H7 Hy ∧ Hy D = some (.lst ((due4.take i).filter fun v => inV v (plL st6 bk6 ag6 false ++ fltL false false rm false)))) ⟨same_new nD, upd_same⟩ (fun i Hy _ e => .of (e.1 _ _ hp7)) (fun i x Hy hx e => ?_) fun Hy e => ?_
      · obtain ⟨s8, hD⟩ := e
        have fx : flatV x = true := by
          have mx := List.mem_of_getElem? hx
          have : ∀ v ∈ due4, flatV v = true := by
            intro v mv
            unfold due4 at mv
            repeat (rcases List.mem_cons.mp mv with rfl | mv; · rfl)
            exact (List.not_mem_nil mv).elim
          exact this x mx
        have i4 : i < 4 := (List.getElem?_eq_some_iff.mp hx).1
        have s68 := s7.trans s8
        have Lp8 := Lp6.same s68
        have Ld8 := Ld6.same s68
        have ql1 := plL_len (a := st6) (b := bk6) (c := ag6) (d := false)
        have ql2 := flt_len (a := false) (b := false) (c := rm) (d := false)
        have acc4 : ((due4.take i).filter fun v => inV v (plL st6 bk6 ag6 false ++ fltL false false rm false)).length < sizeLine := by
          have h1 := List.length_filter_le (fun v => inV v (plL st6 bk6 ag6 false ++ fltL false false rm false)) (due4.take i)
          rw [List.length_take] at h1
          omega
        have step : (due4.take (i + 1)).filter (fun v => inV v (plL st6 bk6 ag6 false ++ fltL false false rm false)) = (due4.take i).filter (fun v => inV v (plL st6 bk6 ag6 false ++ fltL false false rm false)) ++ if inV x (plL st6 bk6 ag6 false ++ fltL false false rm false) then [x] else [] := by
          rw [List.take_add_one, hx, List.filter_append]
          congr 1
          rw [show (some x).toList = [x] from rfl, List.filter_cons]
          split <;> rfl
        walk_at "w3"
        refine ⟨_, _, Lp8.ls, Ld8.ls, by omega, fun r nr => ?_⟩
        have s9 := same_new (o := .lst (plL st6 bk6 ag6 false ++ fltL false false rm false)) nr
        refine r_inL (.of upd_same) fx (by rw [List.all_append, plL_flat, flt_flat]; rfl) ?_
        walk_at "w3"
        have s79 := s8.trans s9
        cases c : inV x (plL st6 bk6 ag6 false ++ fltL false false rm false)
        · rw [c, if_neg Bool.false_ne_true, List.append_nil] at step
          rw [if_neg Bool.false_ne_true]
          exact ⟨s79, by rw [step]; exact s9 _ _ hD⟩
        · rw [c, if_pos rfl] at step
          rw [if_pos rfl]
          exact ⟨_, s9 _ _ hD, acc4, fun b o g => (upd_ne (ne_of_none g nD)).trans (s79 _ _ g), by rw [upd_same, step]⟩
      · obtain ⟨s8, hD⟩ := e
        rw [show due4.take due4.length = due4 from rfl, due_flt] at hD
        have B8 := B6.same (s7.trans s8)
        have ebS := B6.P.g.b
        have ermS : decide ((S6.n : Int) < (S6.ot : Int) + ((S6.t S6.fl : Int) - S6.b S6.fl)) = rm := by
          rw [erm, n6, o6, t6, ebS, n6, ebS0]
        obtain ⟨ds6, pl6⟩ := fltP (b1 := st6) (b2 := bk6) (b3 := rm) (b4 := ag6)
        walk_at "w3"
        refine ⟨_, fldIs B8.he.ob, _, fldIs B8.he.ob, B8.faults (by omega) fun f1 H9 nf1 s9 hf1 => ?_⟩
        rw [ermS] at hf1
        have B9 := B8.same s9
        refine ⟨_, fldIs B9.he.ob, _, fldIs B9.he.ob, B9.faults (by omega) fun f2 H10 nf2 s10 hf2 => ?_⟩
        rw [ermS] at hf2
        have hD10 := (s9.trans s10) _ _ hD
        have hf10 := s10 _ _ hf1
        refine r_isiL hf10 ?_
        walk_at "w3"
        refine r_nePlT hf10 hD10 pl6 ?_
        walk_at "w3"
        refine r_nePlT hf2 hD10 pl6 ?_
        walk_at "w3"
        have s610 := ((s7.trans s8).trans s9).trans s10
        refine r_nePlT (Lr6.same s610).ls (Lk6.same s610).ls pr ?_
        walk_at "w3"
        refine ⟨.inl ⟨rfl, _, .of hf10⟩, f1, _, _, rfl, rfl, hf10, by have := flt_len (a := st6) (b := bk6) (c := rm) (d := ag6); omega, ?_⟩
        have n12 : f1 ≠ f2 := ne_of_none hf1 nf2
        have n1D : D ≠ f1 := ne_of_none hD nf1
        have B10 := B9.same s10
        have B11 : J20 K G (upd H10 f1 (.lst (fltL st6 bk6 rm ag6 ++ [V.str "more"]))) S6 U6 C os ys st6 bk6 ag6 102 := { B10 with he := B10.he.off hf10 (B8.he.offl nf1) }
        have hf11 := (upd_ne (o := .lst (fltL st6 bk6 rm ag6 ++ [V.str "more"])) n12.symm).trans hf2
        have hD11 := (upd_ne (o := .lst (fltL st6 bk6 rm ag6 ++ [V.str "more"])) n1D).trans hD10
        refine r_eqPlT hf11 hD11 pl6 ?_
        walk_at "w3"
        refine ⟨_, fldIs B11.he.ob, _, fldIs B11.he.ob, B11.faults (by omega) fun f3 H12 nf3 s12 hf3 => ?_⟩
        rw [ermS] at hf3
        exact r_eqPlT hf3 (s12 _ _ hD11) pl6 (q _)
end

theorem facts {w : World} {K : PySem.W.Frag} {h : Heap} {mg : Str → Option Value} {f : Addr} (X : K.In h) (G : h.Ns mainGlobals mg) (hfa : mg ("law" : Str) = some (.ref f)) (c : He.SaysD fa fn K) (ce : exOk exL K = true) :
    ∃ fd : FuncData, (∀ (s : Shared) (v : Value), BindsTo s fd ⟨[v], []⟩ [("_law_script", v)]) ∧ ∀ base : Heap, K.In base → base.Ns mainGlobals mg → FnOk (PySem.Challenge.rw_cellkeep_k20_what_is_not_sound).prog w K mg base CX0 11 f fd ["_law_script"] (sp_law K) := by
  have T : Tx K mg := ⟨⟨h, X, G⟩, c, ce⟩
  have e := hfa.symm.trans (T.glo 46)
  cases e
  have F : ∀ base : Heap, Fn (PySem.Challenge.rw_cellkeep_k20_what_is_not_sound).prog w K mg base 11 "law" ["_law_script"] (sp_law K) := fun base => f_law T
  exact ⟨_, fun s v => (F h).bd s [v] rfl, fun base _ _ => quiet (F base).ok fun _ _ _ _ z => z⟩

end Pr
open PySem PySem.W PySem.Calls PyProof.Rows
theorem PySem.Challenge.cw_cellkeep_k20_what_is_not_sound_holds : PySem.Challenge.rw_cellkeep_k20_what_is_not_sound.Holds := by
  w_on; o_law
  refine HandSHeadRun.head_any (r := OpenLaw.row PySem.Challenge.rw_cellkeep_k20_what_is_not_sound) (q := view (OpenLaw.row PySem.Challenge.rw_cellkeep_k20_what_is_not_sound).prog [71]) (H := Pr.hk) (ob := Pr.ob) (M := 16000) (loose := Pr.loose) (d := HandSHeadRun.topDef (OpenLaw.row PySem.Challenge.rw_cellkeep_k20_what_is_not_sound).prog 71) (kwd := []) Pr.ob_eq
    (by kernel_rfl) (fun s => by kernel_rfl) Pr.run (by kernel_rfl) (by kernel_rfl) (by kernel_rfl) (by rfl) (by first | assumption | decide +kernel) (by decide +kernel) ⟨rfl, rfl, rfl, rfl, rfl, by decide +kernel⟩ ?hw ?hc
  case hw => w_witness2
  case hc =>
    refine L2.walk_ofE (l := PySem.Challenge.rw_cellkeep_k20_what_is_not_sound) (n := 63) (k := 11) (x := "_law_script") (CX := L2.CX0) rfl (by decide) (by kernel_rfl) ⟨rfl, by decide, by decide⟩ ?F (fun _ _ _ _ z => z)
    case F =>
      intro w mg fa h Y G hmg0
      obtain ⟨K, KX, c, ce⟩ := Y
      have hmg : mg ("law" : PySem.Str) = some (.ref fa) := by
        have e : (HandSHeadRun.topDef (OpenLaw.row PySem.Challenge.rw_cellkeep_k20_what_is_not_sound).prog 71).name = ("law" : PySem.Str) := by kernel_rfl
        rw [← e]
        exact hmg0
      obtain ⟨fd, hb, hF⟩ := Pr.facts (w := w) KX G hmg c ce
      exact ⟨K, fd, Pr.sp_law K, KX, hb, fun H a ns hl _ hS => ⟨a, ns, rfl, hS, hl, fun _ => rfl⟩, hF⟩
#print axioms PySem.Challenge.cw_cellkeep_k20_what_is_not_sound_holds

